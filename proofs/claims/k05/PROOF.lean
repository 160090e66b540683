import PyProof.Rows.All
import Wide.All
import OpenK.AllK
import Wide.FinOn
import HandS.ForMost
import HandS.IsInst
import HandS.Style
import HandS.Strs
import HandS.SortOrd
import HandS.TupAny
import HandS.WordsExc
import HandS.Lambda
import KE.GoesMore
import KE.GoesEnum
import KE.GoesZip
import HandS.SetFor
import HandS.SetKeys
import HandS.SortInts
import HandS.More
import PyProof.Rows.SetFrom
import HandS.Conv
import HandS.Replace
import PyProof.P3Eq
import HandS.SortRule
import PyProof.SumWalkG
import PyProof.Rows.SumAny
import KE.KRevSl
import HandS.DictTup
import HandS.ListItems
import HandS.DictComp
import HandS.TupSets
import HandS.EndTab
import HandS.ReHeld
import HandS.ExcInit
import HandS.ExcField
import HandS.ClsMeth
import PySem.Challenge.RW_placesums_k05_whole_two_teams_in_both_ra
set_option Elab.async false
set_option linter.all false
set_option maxRecDepth 100000
/-! Plain data over the hand layer: values, owned cells, frames, the four kinds of results. -/
namespace Pv
open PySem PySem.Spec PyProof.Rows L2

/-! ### data as it stands in a heap -/
mutual
inductive Rp (F : Hp) : V → PyData → Prop
  | non : Rp F .non .none
  | bl (b : Bool) : Rp F (.bl b) (.bool b)
  | int (i : Int) : Rp F (.int i) (.int i)
  | str (x : Str) : Rp F (.str x) (.str x)
  | lst {a : Addr} {xs : List V} {ds : List PyData} : F a = some (.lst xs) → RpA F xs ds → Rp F (.ref a) (.list ds)
  | tup {a : Addr} {xs : List V} {ds : List PyData} : F a = some (.tup xs) → RpA F xs ds → Rp F (.ref a) (.tuple ds)
inductive RpA (F : Hp) : List V → List PyData → Prop
  | nil : RpA F [] []
  | cons {v : V} {vs : List V} {d : PyData} {ds : List PyData} : Rp F v d → RpA F vs ds → RpA F (v :: vs) (d :: ds)
end
mutual
theorem Rp.mono {F F' : Hp} (s : Same F F') : ∀ (d : PyData) (v : V), Rp F v d → Rp F' v d
  | .none, _, h => by cases h; exact .non
  | .bool b, _, h => by cases h; exact .bl b
  | .int i, _, h => by cases h; exact .int i
  | .str x, _, h => by cases h; exact .str x
  | .list ds, _, h => by
    cases h with
    | lst e a => exact .lst (s _ _ e) (RpA.mono s ds _ a)
  | .tuple ds, _, h => by
    cases h with
    | tup e a => exact .tup (s _ _ e) (RpA.mono s ds _ a)
  | .dict _, _, h => by cases h
theorem RpA.mono {F F' : Hp} (s : Same F F') : ∀ (ds : List PyData) (vs : List V), RpA F vs ds → RpA F' vs ds
  | [], _, h => by cases h; exact .nil
  | d :: ds, _, h => by
    cases h with
    | cons h1 h2 => exact .cons (Rp.mono s d _ h1) (RpA.mono s ds _ h2)
end
mutual
theorem Rp.dp {K : PySem.W.Frag} {F : Hp} : ∀ (d : PyData) (v : V), Rp F v d → Dp K F v d
  | .none, _, h => by cases h; exact .non
  | .bool b, _, h => by cases h; exact .bl b
  | .int i, _, h => by cases h; exact .int i
  | .str x, _, h => by cases h; exact .str x
  | .list ds, _, h => by
    cases h with
    | lst e a => exact .lst (SqL.of e) (RpA.dp ds _ a)
  | .tuple ds, _, h => by
    cases h with
    | tup e a => exact .tup (SqT.of e) (RpA.dp ds _ a)
  | .dict _, _, h => by cases h
theorem RpA.dp {K : PySem.W.Frag} {F : Hp} : ∀ (ds : List PyData) (vs : List V), RpA F vs ds → DpAll K F vs ds
  | [], _, h => by cases h; exact .nil
  | d :: ds, _, h => by
    cases h with
    | cons h1 h2 => exact .cons (Rp.dp d _ h1) (RpA.dp ds _ h2)
end
theorem RpA.length {F : Hp} : ∀ {ds : List PyData} {vs : List V}, RpA F vs ds → vs.length = ds.length
  | _, _, .nil => rfl
  | _, _, .cons _ t => by rw [List.length_cons, List.length_cons, RpA.length t]
theorem RpA.get {F : Hp} : ∀ {ds : List PyData} {vs : List V} {i : Nat} {x : PyData}, RpA F vs ds → ds[i]? = some x → ∃ v, vs[i]? = some v ∧ Rp F v x
  | _, _, _, _, .nil, e => by simp at e
  | _, _, 0, _, .cons r _, e => by simp at e; subst e; exact ⟨_, rfl, r⟩
  | _, _, i + 1, x, .cons _ t, e => by
    obtain ⟨v, h1, h2⟩ := RpA.get (i := i) (x := x) t (by simpa using e)
    exact ⟨v, by simpa using h1, h2⟩
theorem RpA.app {F : Hp} : ∀ {ds es : List PyData} {vs us : List V}, RpA F vs ds → RpA F us es → RpA F (vs ++ us) (ds ++ es)
  | _, _, _, _, .nil, h => h
  | _, _, _, _, .cons r t, h => .cons r (RpA.app t h)
theorem RpA.take {F : Hp} : ∀ {ds : List PyData} {vs : List V} (n : Nat), RpA F vs ds → RpA F (vs.take n) (ds.take n)
  | _, _, 0, _ => .nil
  | _, _, _ + 1, .nil => .nil
  | _, _, n + 1, .cons r t => .cons r (RpA.take n t)
theorem RpA.drop {F : Hp} : ∀ {ds : List PyData} {vs : List V} (n : Nat), RpA F vs ds → RpA F (vs.drop n) (ds.drop n)
  | _, _, 0, h => h
  | _, _, _ + 1, .nil => .nil
  | _, _, n + 1, .cons _ t => RpA.drop n t
theorem RpA.set {F : Hp} {x : PyData} {v : V} (r : Rp F v x) : ∀ {ds : List PyData} {vs : List V} (n : Nat), RpA F vs ds → RpA F (vs.set n v) (ds.set n x)
  | _, _, _, .nil => .nil
  | _, _, 0, .cons _ t => .cons r t
  | _, _, n + 1, .cons q t => .cons q (RpA.set r n t)
theorem RpA.eraseIdx {F : Hp} : ∀ {ds : List PyData} {vs : List V} (n : Nat), RpA F vs ds → RpA F (vs.eraseIdx n) (ds.eraseIdx n)
  | _, _, _, .nil => .nil
  | _, _, 0, .cons _ t => t
  | _, _, n + 1, .cons q t => .cons q (RpA.eraseIdx n t)
theorem RpA.rev {F : Hp} : ∀ {ds : List PyData} {vs : List V}, RpA F vs ds → RpA F vs.reverse ds.reverse
  | _, _, .nil => .nil
  | _, _, .cons r t => by
    rw [List.reverse_cons, List.reverse_cons]
    exact RpA.app (RpA.rev t) (.cons r .nil)
theorem RpA.ints {F : Hp} : ∀ {ns : List Int} {vs : List V}, RpA F vs (ns.map .int) → vs = ns.map V.int
  | [], _, h => by cases h; rfl
  | n :: ns, _, h => by
    cases h with
    | cons h1 h2 => cases h1; rw [RpA.ints h2]; rfl
theorem RpA.strs {F : Hp} : ∀ {ns : List Str} {vs : List V}, RpA F vs (ns.map .str) → vs = ns.map V.str
  | [], _, h => by cases h; rfl
  | n :: ns, _, h => by
    cases h with
    | cons h1 h2 => cases h1; rw [RpA.strs h2]; rfl
theorem RpA.bls {F : Hp} : ∀ {ns : List Bool} {vs : List V}, RpA F vs (ns.map .bool) → vs = ns.map V.bl
  | [], _, h => by cases h; rfl
  | n :: ns, _, h => by
    cases h with
    | cons h1 h2 => cases h1; rw [RpA.bls h2]; rfl
theorem RpA.ofInts {F : Hp} : ∀ (ns : List Int), RpA F (ns.map V.int) (ns.map .int)
  | [] => .nil
  | n :: ns => .cons (.int n) (RpA.ofInts ns)
theorem RpA.ofStrs {F : Hp} : ∀ (ns : List Str), RpA F (ns.map V.str) (ns.map .str)
  | [] => .nil
  | n :: ns => .cons (.str n) (RpA.ofStrs ns)
/-- a plain value -/
def toV : PyData → V
  | .none => .non
  | .bool b => .bl b
  | .int i => .int i
  | .str x => .str x
  | _ => .non
def scalar : PyData → Bool
  | .none => true | .bool _ => true | .int _ => true | .str _ => true
  | _ => false
theorem Rp.sc {F : Hp} {x : PyData} (h : scalar x = true) : Rp F (toV x) x := by
  cases x <;> first | exact .non | exact .bl _ | exact .int _ | exact .str _ | cases h
theorem Rp.scV {F : Hp} {x : PyData} {v : V} (h : scalar x = true) (r : Rp F v x) : v = toV x := by
  cases r <;> first | rfl | cases h
abbrev RpK {κ : Type} (F : Hp) : List (κ × V) → List (κ × PyData) → Prop := Paired fun (p : κ × V) (q : κ × PyData) => p.1 = q.1 ∧ Rp F p.2 q.2
theorem RpK.mono {κ : Type} {F F' : Hp} (s : Same F F') {a : List (κ × V)} {b : List (κ × PyData)} (h : RpK F a b) : RpK F' a b :=
  Paired.mapP h fun _ _ q => ⟨q.1, Rp.mono s _ _ q.2⟩

/-! ### owned cells, slots, expressions' values -/
inductive Oc where
  | l (xs : List PyData) | k (kvs : List (Key × PyData)) | t (kvs : List (List Key × PyData))
inductive Sl where
  | no | d (x : PyData) | o (c : Oc) | r (c : Oc) | scr (ns : List Int)
inductive Ev where
  | d (x : PyData) | b (i : Nat) | o (c : Oc)
abbrev Rho := List Sl
def OcRep (F H : Hp) (p : Addr) : Oc → Prop
  | .l xs => ∃ vs, H p = some (.lst vs) ∧ RpA F vs xs
  | .k kvs => ∃ ks, H p = some (.dK ks) ∧ RpK F ks kvs
  | .t kvs => ∃ ks, H p = some (.dT ks) ∧ RpK F ks kvs
theorem OcRep.at {F F' H H' : Hp} {p : Addr} {c : Oc} (s : Same F F') (h : ∀ o, H p = some o → H' p = some o) (x : OcRep F H p c) : OcRep F' H' p c := by
  cases c with
  | l xs => obtain ⟨vs, e, r⟩ := x; exact ⟨vs, h _ e, RpA.mono s _ _ r⟩
  | k xs => obtain ⟨vs, e, r⟩ := x; exact ⟨vs, h _ e, RpK.mono s r⟩
  | t xs => obtain ⟨vs, e, r⟩ := x; exact ⟨vs, h _ e, RpK.mono s r⟩
theorem OcRep.there {F H : Hp} {p : Addr} {c : Oc} (x : OcRep F H p c) : ∃ o, H p = some o := by
  cases c <;> (obtain ⟨vs, e, _⟩ := x; exact ⟨_, e⟩)
/-- the frame: what must stand, the pinned slots, the script -/
structure Fr where
  Z : Hp
  P : Nat → Option Addr
  A : Addr → List Int → Prop
  nt : ∀ b vs, Z b ≠ some (.tup vs)
  nq : ∀ b ps, Z b ≠ some (.tbl ps)
/-- the defs of the laws that make lambdas, and their tables of code objects -/
def lamNames : List Str := ["law", "_law_refuses", "_law_call", "_law_order_calls", "_law_team_calls", "_law_count_calls", "_law_others_right"]
def tabsOf (K : PySem.W.Frag) : List (Addr × Str) := lamNames.filterMap fun n => (PySem.W.tabIn K n).map fun p => (p.2, n ++ (".<locals>." : Str) ++ ("<lambda>" : Str))
/-- the tables of code objects; they are no data -/
structure XT (T : List (Addr × Str)) (F H : Hp) : Prop where
  tb : LamX.Tabs T H
  fq : ∀ b ps, F b ≠ some (.tbl ps)
theorem XT.ext {T : List (Addr × Str)} {F F' H H' : Hp} (x : XT T F H) (s : Same H H') (q : ∀ b ps, F' b ≠ some (.tbl ps)) : XT T F' H' := ⟨x.tb.ext s, q⟩
theorem XT.put {T : List (Addr × Str)} {F H : Hp} (x : XT T F H) {p : Addr} {ho o' : HO} (e : H p = some ho) (h1 : ∀ ps, ho ≠ .tbl ps) (h2 : ∀ f, ho ≠ .ext f) : XT T F (upd H p o') := by
  refine ⟨fun q hq => ?_, x.fq⟩
  obtain ⟨ps, a, b, c⟩ := x.tb q hq
  have ne : ∀ d o, H d = some o → (o = .tbl ps ∨ ∃ f, o = .ext f) → d ≠ p := fun d o hd ho z => by
    subst z
    rw [e] at hd
    cases hd
    rcases ho with z | ⟨f, z⟩
    · exact h1 _ z
    · exact h2 _ z
  refine ⟨ps, by rw [upd_ne (ne _ _ a (.inl rfl))]; exact a, b, fun pos cv hc => ?_⟩
  obtain ⟨d, e1, e2⟩ := c pos cv hc
  exact ⟨d, e1, by rw [upd_ne (ne _ _ e2 (.inr ⟨_, rfl⟩))]; exact e2⟩
theorem nq_put {Z : Hp} {p : Addr} {o : HO} (h : ∀ b ps, Z b ≠ some (.tbl ps)) (ho : ∀ ps, o ≠ .tbl ps) : ∀ b ps, upd Z p o b ≠ some (.tbl ps) := fun b ps e => by
  by_cases hb : b = p
  · subst hb; rw [upd_same] at e; exact ho ps (Option.some.inj e)
  · rw [upd_ne hb] at e; exact h b ps e
theorem OcRep.nt {F H : Hp} {p : Addr} {c : Oc} (x : OcRep F H p c) : ∀ vs, H p ≠ some (.tup vs) := fun vs h => by
  cases c <;> (obtain ⟨ws, e, _⟩ := x; rw [h] at e; cases e)
theorem OcRep.plain {F H : Hp} {p : Addr} {c : Oc} (x : OcRep F H p c) : ∃ ho, H p = some ho ∧ (∀ ps, ho ≠ .tbl ps) ∧ ∀ f, ho ≠ .ext f := by
  cases c <;> (obtain ⟨vs, e, _⟩ := x; exact ⟨_, e, (fun _ z => nomatch z), (fun _ z => nomatch z)⟩)
theorem OcRep.nq {F H : Hp} {p : Addr} {c : Oc} (x : OcRep F H p c) : ∀ ps, H p ≠ some (.tbl ps) := fun ps h => by
  cases c <;> (obtain ⟨ws, e, _⟩ := x; rw [h] at e; cases e)
theorem nt_put {Z : Hp} {p : Addr} {o : HO} (h : ∀ b vs, Z b ≠ some (.tup vs)) (ho : ∀ vs, o ≠ .tup vs) : ∀ b vs, upd Z p o b ≠ some (.tup vs) := fun b vs e => by
  by_cases hb : b = p
  · subst hb; rw [upd_same] at e; exact ho vs (Option.some.inj e)
  · rw [upd_ne hb] at e; exact h b vs e
def Own (ρ : Rho) (i : Nat) : Prop := ∃ c, ρ[i]? = some (.o c) ∨ ρ[i]? = some (.r c)
def SlOk (fr : Fr) (F : Hp) (σ : L2.St) (H : Hp) (i : Nat) : Sl → Prop
  | .no => True
  | .d x => ∃ v, σ[i]? = some (some v) ∧ Rp F v x
  | .o c => ∃ p, σ[i]? = some (some (.ref p)) ∧ F p = none ∧ fr.Z p = none ∧ OcRep F H p c
  | .r c => ∃ p, fr.P i = some p ∧ σ[i]? = some (some (.ref p)) ∧ F p = none ∧ fr.Z p = none ∧ OcRep F H p c
  | .scr ns => ∃ a, σ[i]? = some (some (.ref a)) ∧ fr.A a ns
structure SR (K : PySem.W.Frag) (fr : Fr) (F : Hp) (σ : L2.St) (H : Hp) (ρ : Rho) : Prop where
  len : ρ.length = σ.length
  sF : Same F H
  sZ : Same fr.Z H
  dj : ∀ b o, fr.Z b = some o → F b = none
  sA : ∀ a ns, fr.A a ns → SqL K fr.Z a (ns.map V.int)
  sl : ∀ i s, ρ[i]? = some s → SlOk fr F σ H i s
  inj : ∀ i j p, Own ρ i → Own ρ j → σ[i]? = some (some (.ref p)) → σ[j]? = some (some (.ref p)) → i = j
  x : XT (tabsOf K) F H
/-- an owned slot's cell -/
theorem SR.own {K : PySem.W.Frag} {fr : Fr} {F : Hp} {σ : L2.St} {H : Hp} {ρ : Rho} (S : SR K fr F σ H ρ) {i : Nat} (o : Own ρ i) : ∃ p c, σ[i]? = some (some (.ref p)) ∧ F p = none ∧ fr.Z p = none ∧ OcRep F H p c := by
  obtain ⟨c, o | o⟩ := o
  · obtain ⟨p, a, b, d, e⟩ := S.sl i _ o; exact ⟨p, c, a, b, d, e⟩
  · obtain ⟨p, _, a, b, d, e⟩ := S.sl i _ o; exact ⟨p, c, a, b, d, e⟩
theorem SR.ownNT {K : PySem.W.Frag} {fr : Fr} {F : Hp} {σ : L2.St} {H : Hp} {ρ : Rho} (S : SR K fr F σ H ρ) {i : Nat} {p : Addr} (o : Own ρ i) (e : σ[i]? = some (some (.ref p))) : ∀ vs, H p ≠ some (.tup vs) := by
  obtain ⟨q, c, a, b, d, r⟩ := S.own o
  rw [e] at a
  cases a
  exact r.nt
theorem SR.ownNQ {K : PySem.W.Frag} {fr : Fr} {F : Hp} {σ : L2.St} {H : Hp} {ρ : Rho} (S : SR K fr F σ H ρ) {i : Nat} {p : Addr} (o : Own ρ i) (e : σ[i]? = some (some (.ref p))) : ∀ ps, H p ≠ some (.tbl ps) := by
  obtain ⟨q, c, a, b, d, r⟩ := S.own o
  rw [e] at a
  cases a
  exact r.nq
theorem SR.ownAt {K : PySem.W.Frag} {fr : Fr} {F : Hp} {σ : L2.St} {H : Hp} {ρ : Rho} (S : SR K fr F σ H ρ) {i : Nat} {p : Addr} (o : Own ρ i) (e : σ[i]? = some (some (.ref p))) : F p = none ∧ fr.Z p = none ∧ ∃ ho, H p = some ho := by
  obtain ⟨q, c, a, b, d, r⟩ := S.own o
  rw [e] at a
  cases a
  exact ⟨b, d, r.there⟩
def EvRep (fr : Fr) (F : Hp) (σ : L2.St) (H : Hp) (ρ : Rho) (u : V) : Ev → Prop
  | .d x => Rp F u x
  | .b i => σ[i]? = some (some u)
  | .o c => ∃ p, u = .ref p ∧ F p = none ∧ fr.Z p = none ∧ (∀ i, Own ρ i → σ[i]? ≠ some (some (.ref p))) ∧ OcRep F H p c
theorem SlOk.mono {fr : Fr} {F F' : Hp} {σ : L2.St} {H H' : Hp} {i : Nat} {s : Sl} (sF : Same F F') (hF : ∀ p, F p = none → (∃ o, H p = some o) → F' p = none) (hH : ∀ p o, σ[i]? = some (some (.ref p)) → H p = some o → H' p = some o) (h : SlOk fr F σ H i s) : SlOk fr F' σ H' i s := by
  cases s with
  | no => trivial
  | d x => obtain ⟨v, a, b⟩ := h; exact ⟨v, a, b.mono sF⟩
  | o c => obtain ⟨p, a, b, d, e⟩ := h; exact ⟨p, a, hF p b e.there, d, e.at sF fun o => hH p o a⟩
  | r c => obtain ⟨p, z, a, b, d, e⟩ := h; exact ⟨p, z, a, hF p b e.there, d, e.at sF fun o => hH p o a⟩
  | scr ns => exact h
section
variable {K : PySem.W.Frag} {fr : Fr} {F : Hp} {σ : L2.St} {H : Hp} {ρ : Rho}
/-- a new cell, not yet data -/
theorem SR.newO (S : SR K fr F σ H ρ) {p : Addr} {o : HO} (n : H p = none) : SR K fr F σ (upd H p o) ρ ∧ F p = none ∧ fr.Z p = none ∧ ∀ i, Own ρ i → σ[i]? ≠ some (some (.ref p)) := by
  have sm : Same H (upd H p o) := fun b u e => by rw [upd_ne (ne_of_none e n)]; exact e
  refine ⟨⟨S.len, S.sF.trans sm, S.sZ.trans sm, S.dj, S.sA, fun i s e => (S.sl i s e).mono (Same.refl _) (fun _ h _ => h) (fun q u _ e => sm q u e), S.inj, S.x.ext sm S.x.fq⟩, S.sF.free n, S.sZ.free n, fun i w e => ?_⟩
  obtain ⟨_, _, ho, e'⟩ := S.ownAt w e
  rw [n] at e'
  cases e'
/-- new data -/
theorem SR.newD (S : SR K fr F σ H ρ) {p : Addr} {o : HO} (n : H p = none) (ho : ∀ ps, o ≠ .tbl ps := by intro _ z; cases z) : SR K fr (upd F p o) σ (upd H p o) ρ ∧ Same F (upd F p o) := by
  have sm : Same H (upd H p o) := fun b u e => by rw [upd_ne (ne_of_none e n)]; exact e
  have nF : F p = none := S.sF.free n
  have sF : Same F (upd F p o) := fun b u e => by rw [upd_ne (ne_of_none e nF)]; exact e
  refine ⟨⟨S.len, fun b u e => ?_, S.sZ.trans sm, fun b u e => ?_, S.sA, fun i s e => (S.sl i s e).mono sF (fun q h ⟨u, e⟩ => ?_) (fun q u _ e => sm q u e), S.inj, S.x.ext sm (nq_put S.x.fq ho)⟩, sF⟩
  · by_cases hb : b = p
    · subst hb; rw [upd_same] at e ⊢; exact e
    · rw [upd_ne hb] at e ⊢; exact S.sF _ _ e
  · have hb : b ≠ p := fun z => by subst z; rw [S.sZ.free n] at e; cases e
    rw [upd_ne hb]; exact S.dj _ _ e
  · rw [upd_ne (ne_of_none e n)]; exact h
/-- a cell that no slot owns becomes data -/
theorem SR.toD (S : SR K fr F σ H ρ) {p : Addr} {o : HO} (e : H p = some o) (nF : F p = none) (nZ : fr.Z p = none) (no : ∀ i, Own ρ i → σ[i]? ≠ some (some (.ref p))) (ho : ∀ ps, o ≠ .tbl ps := by intro _ z; cases z) : SR K fr (upd F p o) σ H ρ ∧ Same F (upd F p o) := by
  have sF : Same F (upd F p o) := fun b u e => by rw [upd_ne (ne_of_none e nF)]; exact e
  refine ⟨⟨S.len, fun b u e' => ?_, S.sZ, fun b u e' => ?_, S.sA, fun i s e' => ?_, S.inj, S.x.ext (Same.refl _) (nq_put S.x.fq ho)⟩, sF⟩
  · by_cases hb : b = p
    · subst hb; rw [upd_same] at e'; rw [e, e']
    · rw [upd_ne hb] at e'; exact S.sF _ _ e'
  · have hb : b ≠ p := fun z => by subst z; rw [nZ] at e'; cases e'
    rw [upd_ne hb]; exact S.dj _ _ e'
  · have h := S.sl i s e'
    cases s with
    | no => trivial
    | d x => obtain ⟨v, a, b⟩ := h; exact ⟨v, a, b.mono sF⟩
    | o c =>
      obtain ⟨q, a, b, d, r⟩ := h
      have hq : q ≠ p := fun z => no i ⟨c, .inl e'⟩ (by rw [← z]; exact a)
      exact ⟨q, a, by rw [upd_ne hq]; exact b, d, r.at sF fun _ z => z⟩
    | r c =>
      obtain ⟨q, z, a, b, d, r⟩ := h
      have hq : q ≠ p := fun z => no i ⟨c, .inr e'⟩ (by rw [← z]; exact a)
      exact ⟨q, z, a, by rw [upd_ne hq]; exact b, d, r.at sF fun _ z => z⟩
    | scr ns => exact h
/-- a bigger frame -/
structure Fr.Le (f g : Fr) : Prop where
  z : Same f.Z g.Z
  p : g.P = f.P
  a : g.A = f.A
theorem SR.shrink {g : Fr} (S : SR K g F σ H ρ) (le : fr.Le g) (sA : ∀ a ns, fr.A a ns → SqL K fr.Z a (ns.map V.int)) : SR K fr F σ H ρ := by
  refine ⟨S.len, S.sF, le.z.trans S.sZ, fun b o e => S.dj b o (le.z _ _ e), sA, fun i s e => ?_, S.inj, S.x⟩
  have h := S.sl i s e
  cases s with
  | no => trivial
  | d x => exact h
  | o c => obtain ⟨q, a, b, d, r⟩ := h; exact ⟨q, a, b, le.z.free d, r⟩
  | r c => obtain ⟨q, z, a, b, d, r⟩ := h; exact ⟨q, by rw [← le.p]; exact z, a, b, le.z.free d, r⟩
  | scr ns => obtain ⟨a, h1, h2⟩ := h; exact ⟨a, h1, by rw [← le.a]; exact h2⟩
/-- a value is put by while the next one is reckoned -/
theorem hold {u : V} {v : Ev} (S : SR K fr F σ H ρ) (e : EvRep fr F σ H ρ u v) : ∃ g : Fr, fr.Le g ∧ SR K g F σ H ρ ∧ ∀ F' H' ρ', SR K g F' σ H' ρ' → Same F F' → SR K fr F' σ H' ρ' ∧ EvRep fr F' σ H' ρ' u v ∧
    ∀ u2 v2, EvRep g F' σ H' ρ' u2 v2 → EvRep fr F' σ H' ρ' u2 v2 := by
  cases v with
  | d x => exact ⟨fr, ⟨Same.refl _, rfl, rfl⟩, S, fun F' H' ρ' S' sm => ⟨S', Rp.mono sm _ _ e, fun _ _ z => z⟩⟩
  | b i => exact ⟨fr, ⟨Same.refl _, rfl, rfl⟩, S, fun F' H' ρ' S' sm => ⟨S', e, fun _ _ z => z⟩⟩
  | o c =>
    obtain ⟨p, rfl, nF, nZ, no, rep⟩ := e
    obtain ⟨ho, eo⟩ := rep.there
    have hnt : ∀ b vs, upd fr.Z p ho b ≠ some (.tup vs) := nt_put fr.nt fun vs z => rep.nt vs (by rw [eo, z])
    have hnq : ∀ b ps, upd fr.Z p ho b ≠ some (.tbl ps) := nq_put fr.nq fun ps z => rep.nq ps (by rw [eo, z])
    have le : fr.Le { fr with Z := upd fr.Z p ho, nt := hnt, nq := hnq } := ⟨fun b u e => by show upd fr.Z p ho b = some u; rw [upd_ne (ne_of_none e nZ)]; exact e, rfl, rfl⟩
    refine ⟨{ fr with Z := upd fr.Z p ho, nt := hnt, nq := hnq }, le, ⟨S.len, S.sF, fun b u e => ?_, fun b u e => ?_, fun a ns h => le.z.seq (S.sA a ns h), fun i s e => ?_, S.inj, S.x⟩, fun F' H' ρ' S' sm => ⟨S'.shrink le S.sA, ?_, fun u2 v2 q => ?_⟩⟩
    · have e' : upd fr.Z p ho b = some u := e
      by_cases hb : b = p
      · subst hb; rw [upd_same] at e'; rw [eo, e']
      · rw [upd_ne hb] at e'; exact S.sZ _ _ e'
    · have e' : upd fr.Z p ho b = some u := e
      by_cases hb : b = p
      · subst hb; exact nF
      · rw [upd_ne hb] at e'; exact S.dj _ _ e'
    · have h := S.sl i s e
      cases s with
      | no => trivial
      | d x => exact h
      | o c' =>
        obtain ⟨q, a, b, d, r⟩ := h
        have hq : q ≠ p := fun z => no i ⟨c', .inl e⟩ (by rw [← z]; exact a)
        exact ⟨q, a, b, by show upd fr.Z p ho q = none; rw [upd_ne hq]; exact d, r⟩
      | r c' =>
        obtain ⟨q, z, a, b, d, r⟩ := h
        have hq : q ≠ p := fun z => no i ⟨c', .inr e⟩ (by rw [← z]; exact a)
        exact ⟨q, z, a, b, by show upd fr.Z p ho q = none; rw [upd_ne hq]; exact d, r⟩
      | scr ns => exact h
    · have hZ : (upd fr.Z p ho) p = some ho := upd_same
      refine ⟨p, rfl, S'.dj _ _ hZ, nZ, fun i w q => ?_, rep.at sm fun o z => ?_⟩
      · have z : (upd fr.Z p ho) p = none := (S'.ownAt w q).2.1
        rw [hZ] at z; cases z
      · rw [eo] at z; cases z
        exact S'.sZ _ _ hZ
    · cases v2 with
      | d x => exact q
      | b i => exact q
      | o c2 => obtain ⟨p2, a, b, z, d, r⟩ := q; exact ⟨p2, a, b, le.z.free z, d, r⟩
end
end Pv

/-! Results, what is wanted of them, the readings of mirrors; names, constants, tests, statements, loops, comprehensions. -/
namespace Pv
open PySem PySem.Spec PyProof.Rows L2

abbrev Ex := Str × Option Int
inductive Rg (α : Type) where
  | ok (a : α) (ρ : Rho) | er (x : Ex) (ρ : Rho)
inductive Fl where
  | nx (ρ : Rho) | rt (v : Ev) (ρ : Rho) | bk (ρ : Rho) | ct (ρ : Rho) | er (x : Ex) (ρ : Rho)
/-- what is wanted of errors -/
structure WC where
  W : WX
  XR : Ex → Value → Option Addr → Hp → Prop
abbrev w0 : WC := ⟨fun _ _ _ _ => False, fun _ _ _ _ => False⟩
abbrev RelT (α β : Type) := Fr → Hp → L2.St → Hp → Rho → β → α → Prop
section
variable {α β γ δ : Type}
def bd (r : Option (Rg α)) (f : α → Rho → Option (Rg γ)) : Option (Rg γ) :=
  match r with
  | none => none
  | some (.ok a ρ) => f a ρ
  | some (.er x ρ) => some (.er x ρ)
def bS (r : Option (Rg α)) (f : α → Rho → Option Fl) : Option Fl :=
  match r with
  | none => none
  | some (.ok a ρ) => f a ρ
  | some (.er x ρ) => some (.er x ρ)
@[simp] theorem bd_ok {a : α} {ρ : Rho} {f : α → Rho → Option (Rg γ)} : bd (some (.ok a ρ)) f = f a ρ := rfl
@[simp] theorem bS_ok {a : α} {ρ : Rho} {f : α → Rho → Option Fl} : bS (some (.ok a ρ)) f = f a ρ := rfl
@[simp] theorem bd_er {x : Ex} {ρ : Rho} {f : α → Rho → Option (Rg γ)} : bd (some (.er x ρ)) f = some (.er x ρ) := rfl
@[simp] theorem bS_er {x : Ex} {ρ : Rho} {f : α → Rho → Option Fl} : bS (some (.er x ρ)) f = some (.er x ρ) := rfl
def WPg (K : PySem.W.Frag) (w : WC) (rel : RelT α β) (Q : β → Hp → Prop) (fr : Fr) (F : Hp) (σ : L2.St) : Option (Rg α) → Prop
  | none => False
  | some (.ok a ρ) => ∀ F' H' b, SR K fr F' σ H' ρ → Same F F' → rel fr F' σ H' ρ b a → Q b H'
  | some (.er x ρ) => ∀ F' H' c d, SR K fr F' σ H' ρ → Same F F' → w.XR x c d H' → w.W c d σ H'
def WPs (K : PySem.W.Frag) (w : WC) (D : Ends) (fr : Fr) (F : Hp) : Option Fl → Prop
  | none => False
  | some (.nx ρ) => ∀ F' σ' H', SR K fr F' σ' H' ρ → Same F F' → D.nx σ' H'
  | some (.bk ρ) => ∀ F' σ' H', SR K fr F' σ' H' ρ → Same F F' → D.bk σ' H'
  | some (.ct ρ) => ∀ F' σ' H', SR K fr F' σ' H' ρ → Same F F' → D.ct σ' H'
  | some (.rt v ρ) => ∀ F' σ' H' u, SR K fr F' σ' H' ρ → Same F F' → EvRep fr F' σ' H' ρ u v → D.rt u H'
  | some (.er x ρ) => ∀ F' σ' H' c d, SR K fr F' σ' H' ρ → Same F F' → w.XR x c d H' → w.W c d σ' H'
variable {K : PySem.W.Frag} {w : WC} {rel : RelT α β} {rel2 : RelT γ δ} {Q : β → Hp → Prop} {Q2 : δ → Hp → Prop} {fr : Fr} {F F' : Hp} {σ : L2.St} {H : Hp} {ρ : Rho} {D : Ends}
theorem WPg.mono {r : Option (Rg α)} (h : WPg K w rel Q fr F σ r) (sm : Same F F') : WPg K w rel Q fr F' σ r := by
  match r, h with
  | some (.ok a ρ), h => exact fun F2 H' b S s2 q => h F2 H' b S (sm.trans s2) q
  | some (.er x ρ), h => exact fun F2 H' c d S s2 q => h F2 H' c d S (sm.trans s2) q
theorem WPs.mono {r : Option Fl} (h : WPs K w D fr F r) (sm : Same F F') : WPs K w D fr F' r := by
  match r, h with
  | some (.nx ρ), h => exact fun F2 σ' H' S s2 => h F2 σ' H' S (sm.trans s2)
  | some (.bk ρ), h => exact fun F2 σ' H' S s2 => h F2 σ' H' S (sm.trans s2)
  | some (.ct ρ), h => exact fun F2 σ' H' S s2 => h F2 σ' H' S (sm.trans s2)
  | some (.rt v ρ), h => exact fun F2 σ' H' u S s2 q => h F2 σ' H' u S (sm.trans s2) q
  | some (.er x ρ), h => exact fun F2 σ' H' c d S s2 q => h F2 σ' H' c d S (sm.trans s2) q
theorem WPg.bd {r : Option (Rg α)} {f : α → Rho → Option (Rg γ)} (h : WPg K w rel2 Q2 fr F σ (bd r f))
    (k : ∀ a ρ F' H' b, SR K fr F' σ H' ρ → Same F F' → rel fr F' σ H' ρ b a → WPg K w rel2 Q2 fr F' σ (f a ρ) → Q b H') : WPg K w rel Q fr F σ r := by
  match r, h with
  | some (.ok a ρ), h => exact fun F2 H' b S s2 q => k a ρ F2 H' b S s2 q (WPg.mono h s2)
  | some (.er x ρ), h => exact h
theorem WPs.bd {r : Option (Rg α)} {f : α → Rho → Option Fl} (S0 : SR K fr F σ H ρ) (h : WPs K w D fr F (bS r f))
    (k : ∀ a ρ F' H' b, SR K fr F' σ H' ρ → Same F F' → rel fr F' σ H' ρ b a → WPs K w D fr F' (f a ρ) → Q b H') : WPg K w rel Q fr F σ r := by
  match r, h with
  | some (.ok a ρ), h => exact fun F2 H' b S s2 q => k a ρ F2 H' b S s2 q (WPs.mono h s2)
  | some (.er x ρ), h => exact fun F2 H' c d S s2 q => h F2 σ H' c d S s2 q
/-- in a bigger frame -/
theorem WPg.frame {g : Fr} {r : Option (Rg α)} (h : WPg K w rel Q fr F σ r) (le : fr.Le g) (sA : ∀ a ns, fr.A a ns → SqL K fr.Z a (ns.map V.int))
    (hr : ∀ F' H' ρ b a, Same F F' → SR K g F' σ H' ρ → rel g F' σ H' ρ b a → rel fr F' σ H' ρ b a) : WPg K w rel Q g F σ r := by
  match r, h with
  | some (.ok a ρ), h => exact fun F2 H' b S s2 q => h F2 H' b (S.shrink le sA) s2 (hr _ _ _ _ _ s2 S q)
  | some (.er x ρ), h => exact fun F2 H' c d S s2 q => h F2 H' c d (S.shrink le sA) s2 q
theorem WPg.imp {r : Option (Rg α)} {Q' : β → Hp → Prop} (h : WPg K w rel Q fr F σ r) (k : ∀ a ρ F' H' b, SR K fr F' σ H' ρ → Same F F' → rel fr F' σ H' ρ b a → Q b H' → Q' b H') : WPg K w rel Q' fr F σ r := by
  match r, h with
  | some (.ok a ρ), h => exact fun F2 H' b S s2 q => k a ρ F2 H' b S s2 q (h F2 H' b S s2 q)
  | some (.er x ρ), h => exact h
end
/-! ### readings of mirrors -/
abbrev ME := Rho → Option (Rg Ev)
abbrev MT := Rho → Option (Rg Bool)
abbrev MA := Rho → Option (Rg (List Ev))
abbrev MI := Rho → Option (Rg (List PyData))
abbrev MS := Rho → Option Fl
def Grow (F H F' H' : Hp) : Prop := Same F F' ∧ Same H H' ∧ Same F' H' ∧ (∀ b o, H b = some o → F b = none → F' b = none) ∧ ∀ b ps, F' b = some (.tbl ps) → F b = some (.tbl ps)
def Walks (J : It) (F : Hp) (ds : List PyData) : Prop := ∀ i F' H', Same F F' → Same F' H' →
  (∀ x, ds[i]? = some x → J.go i H' ∧ ∀ y H2, J.yld i H' y H2 → ∃ F2, Grow F' H' F2 H2 ∧ Rp F2 y x) ∧ (ds.length ≤ i → J.stop i H')
def tM {α β : Type} (K : PySem.W.Frag) (w : WC) (rel : RelT α β) (m : Rho → Option (Rg α)) : L2.St → Hp → (β → Hp → Prop) → Prop := fun σ H Q => ∃ fr F ρ, SR K fr F σ H ρ ∧ WPg K w rel Q fr F σ (m ρ)
abbrev relB : RelT Bool Bool := fun _ _ _ _ _ b a => b = a
abbrev relA : RelT (List Ev) (List V) := fun fr F σ H ρ us vs => Paired (EvRep fr F σ H ρ) us vs
abbrev relD : RelT (List PyData) (List V) := fun _ F _ _ _ us vs => RpA F us vs
abbrev relI : RelT (List PyData) It := fun _ F _ _ _ J ds => Walks J F ds
abbrev tE (K : PySem.W.Frag) (w : WC) (m : ME) : TE := tM K w EvRep m
abbrev tT (K : PySem.W.Frag) (w : WC) (m : MT) : TT := tM K w relB m
abbrev tA (K : PySem.W.Frag) (w : WC) (m : MI) : TA := tM K w relD m
abbrev tI (K : PySem.W.Frag) (w : WC) (m : MI) : TI := tM K w relI m
def tS (K : PySem.W.Frag) (w : WC) (m : MS) : TS := fun D σ H => ∃ fr F ρ, SR K fr F σ H ρ ∧ WPs K w D fr F (m ρ)
section
variable {X : Cx} {e a b : Expr} {pos : Pos} {w : WC}
theorem wkE {t t' : TE} (h : PE X e t) (k : ∀ σ H Q, t' σ H Q → t σ H Q) : PE X e t' := ⟨fun pins s σ H Q I q => h.run pins s σ H Q I (k _ _ _ q)⟩
theorem wkT {t t' : TT} (h : PT X e t) (k : ∀ σ H Q, t' σ H Q → t σ H Q) : PT X e t' := ⟨fun pins s σ H Q I q => h.run pins s σ H Q I (k _ _ _ q)⟩
theorem wkW {t t' : TT} (h : PW X e t) (k : ∀ σ H Q, t' σ H Q → t σ H Q) : PW X e t' := ⟨fun wh pins s σ H Q I q => h.run wh pins s σ H Q I (k _ _ _ q)⟩
theorem wkA {es : List Expr} {t t' : TA} (h : PA X es t) (k : ∀ σ H Q, t' σ H Q → t σ H Q) : PA X es t' := ⟨fun ps pins s σ H Q I q => h.run ps pins s σ H Q I (k _ _ _ q)⟩
theorem wkS {st : Stmt} {t t' : TS} (h : PS X st t) (k : ∀ D σ H, t' D σ H → t D σ H) : PS X st t' := ⟨fun pins s σ H D I q => h.run pins s σ H D I (k _ _ _ q)⟩
theorem wkSs {st : List Stmt} {t t' : TS} (h : PSs X st t) (k : ∀ D σ H, t' D σ H → t D σ H) : PSs X st t' := ⟨fun pins s σ H D I q => h.run pins s σ H D I (k _ _ _ q)⟩
theorem wkI {tg it : Expr} {t t' : TI} (h : PI X tg it t) (k : ∀ σ H Q, t' σ H Q → t σ H Q) : PI X tg it t' := ⟨fun pins s σ H Q I q => h.run pins s σ H Q I (k _ _ _ q)⟩
theorem wkG {tg : Expr} {t t' : TG} (h : PG X tg t) (k : ∀ v σ H Q, t' v σ H Q → t v σ H Q) : PG X tg t' := ⟨fun pins s σ H v u Q I r q => h.run pins s σ H v u Q I r (k _ _ _ _ q)⟩
theorem wkGs {tg : List Expr} {t t' : TGs} (h : PGs X tg t) (k : ∀ v σ H Q, t' v σ H Q → t v σ H Q) : PGs X tg t' := ⟨fun pins s σ H v u Q I r q => h.run pins s σ H v u Q I r (k _ _ _ _ q)⟩

/-! ### freezing, reading -/
def frz (v : Ev) (ρ : Rho) : Option (PyData × Rho) :=
  match v with
  | .d x => some (x, ρ)
  | .o (.l xs) => some (.list xs, ρ)
  | .o _ => none
  | .b i => match ρ[i]? with
    | some (.d x) => some (x, ρ)
    | some (.o (.l xs)) => some (.list xs, ρ.set i (.d (.list xs)))
    | _ => none
/-- the content, as it stands -/
def rd (v : Ev) (ρ : Rho) : Option PyData :=
  match v with
  | .d x => some x
  | .o (.l xs) => some (.list xs)
  | .o _ => none
  | .b i => match ρ[i]? with
    | some (.d x) => some x
    | some (.o (.l xs)) => some (.list xs)
    | some (.r (.l xs)) => some (.list xs)
    | _ => none
def Vw (F H : Hp) (u : V) (x : PyData) : Prop := Rp F u x ∨ ∃ p vs xs, u = .ref p ∧ x = .list xs ∧ H p = some (.lst vs) ∧ RpA F vs xs
variable {K : PySem.W.Frag} {fr : Fr} {F : Hp} {σ : L2.St} {H : Hp} {ρ : Rho}
theorem get_of_lt {α : Type} {l : List α} {i : Nat} {x : α} (h : l[i]? = some x) : i < l.length := (List.getElem?_eq_some_iff.mp h).1
theorem SR.at (S : SR K fr F σ H ρ) {i : Nat} {s : Sl} (e : ρ[i]? = some s) : SlOk fr F σ H i s := S.sl i s e
/-- an owned list of a slot becomes data -/
theorem SR.slD (S : SR K fr F σ H ρ) {i : Nat} {xs : List PyData} (e : ρ[i]? = some (.o (.l xs))) : ∃ F' p, Same F F' ∧ σ[i]? = some (some (.ref p)) ∧ SR K fr F' σ H (ρ.set i (.d (.list xs))) ∧ Rp F' (.ref p) (.list xs) := by
  obtain ⟨p, a, b, d, vs, h1, h2⟩ := S.at e
  have hi := get_of_lt e
  have S2 : SR K fr F σ H (ρ.set i .no) := by
    refine ⟨by simpa using S.len, S.sF, S.sZ, S.dj, S.sA, fun j s q => ?_, fun j k q w1 w2 => ?_, S.x⟩
    · by_cases hj : j = i
      · subst hj; rw [List.getElem?_set_self hi] at q; cases q; trivial
      · rw [List.getElem?_set_ne (Ne.symm hj)] at q; exact S.sl j s q
    · have back : ∀ {j}, Own (ρ.set i .no) j → Own ρ j := fun {j} ⟨c, z⟩ => by
        by_cases hj : j = i
        · subst hj; rw [List.getElem?_set_self hi] at z; rcases z with z | z <;> cases z
        · rw [List.getElem?_set_ne (Ne.symm hj)] at z; exact ⟨c, z⟩
      exact S.inj j k q (back w1) (back w2)
  have no : ∀ j, Own (ρ.set i .no) j → σ[j]? ≠ some (some (.ref p)) := fun j ⟨c, z⟩ q => by
    by_cases hj : j = i
    · subst hj; rw [List.getElem?_set_self hi] at z; rcases z with z | z <;> cases z
    · rw [List.getElem?_set_ne (Ne.symm hj)] at z
      exact hj (S.inj j i p ⟨c, z⟩ ⟨_, .inl e⟩ q a)
  obtain ⟨S3, sm⟩ := S2.toD h1 b d no
  refine ⟨_, p, sm, a, ?_, .lst upd_same (RpA.mono sm _ _ h2)⟩
  refine ⟨by simpa using S.len, S3.sF, S3.sZ, S3.dj, S3.sA, fun j s q => ?_, fun j k q w1 w2 => ?_, S3.x⟩
  · by_cases hj : j = i
    · subst hj; rw [List.getElem?_set_self hi] at q; cases q
      exact ⟨_, a, .lst upd_same (RpA.mono sm _ _ h2)⟩
    · rw [List.getElem?_set_ne (Ne.symm hj)] at q
      exact S3.sl j s (by rw [List.getElem?_set_ne (Ne.symm hj)]; exact q)
  · have back : ∀ {j}, Own (ρ.set i (.d (.list xs))) j → Own ρ j := fun {j} ⟨c, z⟩ => by
      by_cases hj : j = i
      · subst hj; rw [List.getElem?_set_self hi] at z; rcases z with z | z <;> cases z
      · rw [List.getElem?_set_ne (Ne.symm hj)] at z; exact ⟨c, z⟩
    exact S.inj j k q (back w1) (back w2)
theorem frz_ok (S : SR K fr F σ H ρ) {u : V} {v : Ev} {x : PyData} {ρ' : Rho} (r : EvRep fr F σ H ρ u v) (e : frz v ρ = some (x, ρ')) : ∃ F', Same F F' ∧ SR K fr F' σ H ρ' ∧ Rp F' u x := by
  match v, r, e with
  | .d x', r, e => cases e; exact ⟨F, Same.refl _, S, r⟩
  | .o (.l xs), r, e =>
    cases e
    obtain ⟨p, rfl, nF, nZ, no, vs, h1, h2⟩ := r
    obtain ⟨S3, sm⟩ := S.toD h1 nF nZ no
    exact ⟨_, sm, S3, .lst upd_same (RpA.mono sm _ _ h2)⟩
  | .b i, r, e =>
    have r' : σ[i]? = some (some u) := r
    have e' : (match ρ[i]? with
      | some (.d x) => some (x, ρ)
      | some (.o (.l xs)) => some (.list xs, ρ.set i (.d (.list xs)))
      | _ => none) = some (x, ρ') := e
    cases h : ρ[i]? with
    | none => rw [h] at e'; cases e'
    | some s =>
      rw [h] at e'
      match s, h, e' with
      | .d y, h, e' =>
        cases e'
        obtain ⟨v, a, b⟩ := S.at h
        rw [r'] at a; cases a
        exact ⟨F, Same.refl _, S, b⟩
      | .o (.l xs), h, e' =>
        cases e'
        obtain ⟨F', p, sm, a, S', rp⟩ := S.slD h
        rw [r'] at a; cases a
        exact ⟨F', sm, S', rp⟩
theorem rd_ok (S : SR K fr F σ H ρ) {u : V} {v : Ev} {x : PyData} (r : EvRep fr F σ H ρ u v) (e : rd v ρ = some x) : Vw F H u x := by
  match v, r, e with
  | .d x', r, e => cases e; exact .inl r
  | .o (.l xs), r, e =>
    cases e
    obtain ⟨p, rfl, nF, nZ, no, vs, h1, h2⟩ := r
    exact .inr ⟨p, vs, xs, rfl, rfl, h1, h2⟩
  | .b i, r, e =>
    have r' : σ[i]? = some (some u) := r
    have e' : (match ρ[i]? with
      | some (.d x) => some x
      | some (.o (.l xs)) => some (.list xs)
      | some (.r (.l xs)) => some (.list xs)
      | _ => none) = some x := e
    cases h : ρ[i]? with
    | none => rw [h] at e'; cases e'
    | some s =>
      rw [h] at e'
      match s, h, e' with
      | .d y, h, e' =>
        cases e'
        obtain ⟨v, a, b⟩ := S.at h
        rw [r'] at a; cases a
        exact .inl b
      | .o (.l xs), h, e' =>
        cases e'
        obtain ⟨p, a, _, _, vs, h1, h2⟩ := S.at h
        rw [r'] at a; cases a
        exact .inr ⟨p, vs, xs, rfl, rfl, h1, h2⟩
      | .r (.l xs), h, e' =>
        cases e'
        obtain ⟨p, _, a, _, _, vs, h1, h2⟩ := S.at h
        rw [r'] at a; cases a
        exact .inr ⟨p, vs, xs, rfl, rfl, h1, h2⟩
theorem Vw.rp {u : V} {x : PyData} (sm : Same F H) (h : Vw F H u x) : Rp H u x := by
  rcases h with h | ⟨p, vs, xs, rfl, rfl, e, r⟩
  · exact Rp.mono sm _ _ h
  · exact .lst e (RpA.mono sm _ _ r)
theorem Vw.list {u : V} {xs : List PyData} (sm : Same F H) (h : Vw F H u (.list xs)) : ∃ p vs, u = .ref p ∧ H p = some (.lst vs) ∧ RpA F vs xs := by
  rcases h with h | ⟨p, vs, ys, rfl, e1, e, r⟩
  · cases h with
    | lst e a => exact ⟨_, _, rfl, sm _ _ e, a⟩
  · cases e1; exact ⟨p, vs, rfl, e, r⟩
theorem Vw.tup {u : V} {xs : List PyData} (h : Vw F H u (.tuple xs)) : ∃ p vs, u = .ref p ∧ F p = some (.tup vs) ∧ RpA F vs xs := by
  rcases h with h | ⟨p, vs, ys, rfl, e1, e, r⟩
  · cases h with
    | tup e a => exact ⟨_, _, rfl, e, a⟩
  · cases e1
theorem Vw.sc {u : V} {x : PyData} (hs : scalar x = true) (h : Vw F H u x) : u = toV x := by
  rcases h with h | ⟨p, vs, ys, rfl, e1, e, r⟩
  · exact h.scV hs
  · subst e1; cases hs

/-! ### a value that an operation hands back -/
inductive Vr where
  | it (x : PyData) | li (xs : List PyData) | tu (xs : List PyData)
def ofVr : Vr → Ev
  | .it x => .d x
  | .li xs => .o (.l xs)
  | .tu xs => .d (.tuple xs)
def WVr (Q : VK) (F H : Hp) : Vr → Prop
  | .it x => ∀ v, Rp F v x → Q v H
  | .li zs => ∀ vs p, RpA F vs zs → H p = none → Q (.ref p) (upd H p (.lst vs))
  | .tu zs => ∀ vs p, RpA F vs zs → H p = none → Q (.ref p) (upd H p (.tup vs))
theorem WVr_of {w : WC} {Q : VK} {r : Vr} (S : SR K fr F σ H ρ) (h : WPg K w EvRep Q fr F σ (some (.ok (ofVr r) ρ))) : WVr Q F H r := by
  cases r with
  | it x => exact fun v rp => h F H v S (Same.refl _) rp
  | li zs =>
    intro vs p rp n
    obtain ⟨S2, nF, nZ, no⟩ := S.newO (o := .lst vs) n
    exact h F _ _ S2 (Same.refl _) ⟨p, rfl, nF, nZ, no, vs, upd_same, rp⟩
  | tu zs =>
    intro vs p rp n
    obtain ⟨S2, sm⟩ := S.newD (o := .tup vs) n
    exact h _ _ _ S2 sm (.tup upd_same (RpA.mono sm _ _ rp))
/-- two expressions, then an operation on their contents -/
def mOp2 (f : PyData → PyData → Option Vr) (ma mb : ME) : ME := fun ρ =>
  bd (ma ρ) fun v1 ρ1 => bd (mb ρ1) fun v2 ρ2 => match rd v1 ρ2, rd v2 ρ2 with
    | some x, some y => (f x y).map fun r => .ok (ofVr r) ρ2
    | _, _ => none
def mOp1 (f : PyData → Option Vr) (ma : ME) : ME := fun ρ =>
  bd (ma ρ) fun v1 ρ1 => match rd v1 ρ1 with
    | some x => (f x).map fun r => .ok (ofVr r) ρ1
    | none => none
/-- what f says of two views holds of the operation g -/
def rF (f : PyData → PyData → Option Vr) : R2 := fun u1 u2 H Q => ∃ F x y r, Same F H ∧ Vw F H u1 x ∧ Vw F H u2 y ∧ f x y = some r ∧ WVr Q F H r
def rF1 (f : PyData → Option Vr) : V → Hp → VK → Prop := fun u1 H Q => ∃ F x r, Same F H ∧ Vw F H u1 x ∧ f x = some r ∧ WVr Q F H r
theorem op2_of {f : PyData → PyData → Option Vr} {ma mb : ME} {Q : VK} (h : tE K w (mOp2 f ma mb) σ H Q) : tOp (rF f) (tE K w ma) (tE K w mb) σ H Q := by
  obtain ⟨fr, F, ρ, S, h⟩ := h
  refine ⟨fr, F, ρ, S, h.bd fun v1 ρ1 F1 H1 u1 S1 s1 r1 h1 => ?_⟩
  obtain ⟨g, le, Sg, back⟩ := hold S1 r1
  have h1' := h1.frame (g := g) le S1.sA fun F' H' ρ' b a sm Sx q => (back F' H' ρ' Sx sm).2.2 _ _ q
  refine ⟨g, F1, ρ1, Sg, h1'.bd fun v2 ρ2 F2 H2 u2 S2 s2 r2 h2 => ?_⟩
  obtain ⟨S2', r1', b2⟩ := back F2 H2 ρ2 S2 s2
  have r2' := b2 _ _ r2
  cases e1 : rd v1 ρ2 with
  | none => rw [e1] at h2; exact h2.elim
  | some x =>
    cases e2 : rd v2 ρ2 with
    | none => rw [e1, e2] at h2; exact h2.elim
    | some y =>
      rw [e1, e2] at h2
      have h3 : WPg K w EvRep Q g F2 σ ((f x y).map fun r => .ok (ofVr r) ρ2) := h2
      cases e3 : f x y with
      | none => rw [e3] at h3; exact h3.elim
      | some r =>
        rw [e3] at h3
        exact ⟨F2, x, y, r, S2.sF, rd_ok S2' r1' e1, rd_ok S2' r2' e2, e3, WVr_of S2 h3⟩
theorem op1_of {f : PyData → Option Vr} {ma : ME} {Q : VK} (h : tE K w (mOp1 f ma) σ H Q) : tE K w ma σ H fun u H1 => rF1 f u H1 Q := by
  obtain ⟨fr, F, ρ, S, h⟩ := h
  refine ⟨fr, F, ρ, S, h.bd fun v1 ρ1 F1 H1 u1 S1 s1 r1 h1 => ?_⟩
  cases e1 : rd v1 ρ1 with
  | none => rw [e1] at h1; exact h1.elim
  | some x =>
    rw [e1] at h1
    have h3 : WPg K w EvRep Q fr F1 σ ((f x).map fun r => .ok (ofVr r) ρ1) := h1
    cases e3 : f x with
    | none => rw [e3] at h3; exact h3.elim
    | some r =>
      rw [e3] at h3
      exact ⟨F1, x, r, S1.sF, rd_ok S1 r1 e1, e3, WVr_of S1 h3⟩

/-! ### names, constants -/
def mVar (i : Nat) : ME := fun ρ => match ρ[i]? with
  | some (.d x) => some (.ok (.d x) ρ)
  | some (.o _) => some (.ok (.b i) ρ)
  | some (.r _) => some (.ok (.b i) ρ)
  | some (.scr _) => some (.ok (.b i) ρ)
  | _ => none
def mC (x : PyData) : ME := fun ρ => if scalar x then some (.ok (.d x) ρ) else none
theorem var_of {i : Nat} {Q : VK} (h : tE K w (mVar i) σ H Q) : tVar i σ H Q := by
  obtain ⟨fr, F, ρ, S, h⟩ := h
  have h' : WPg K w EvRep Q fr F σ (match ρ[i]? with
    | some (.d x) => some (.ok (.d x) ρ)
    | some (.o _) => some (.ok (.b i) ρ)
    | some (.r _) => some (.ok (.b i) ρ)
    | some (.scr _) => some (.ok (.b i) ρ)
    | _ => none) := h
  cases e : ρ[i]? with
  | none => rw [e] at h'; exact h'.elim
  | some s =>
    rw [e] at h'
    have q := S.at e
    match s, e, q, h' with
    | .d x, e, q, h' => obtain ⟨v, a, b⟩ := q; exact ⟨v, a, h' F H v S (Same.refl _) b⟩
    | .o c, e, q, h' => obtain ⟨p, a, _⟩ := q; exact ⟨_, a, h' F H _ S (Same.refl _) a⟩
    | .r c, e, q, h' => obtain ⟨p, _, a, _⟩ := q; exact ⟨_, a, h' F H _ S (Same.refl _) a⟩
    | .scr c, e, q, h' => obtain ⟨p, a, _⟩ := q; exact ⟨_, a, h' F H _ S (Same.refl _) a⟩
theorem c_of {x : PyData} {Q : VK} (h : tE K w (mC x) σ H Q) : tC (toV x) σ H Q := by
  obtain ⟨fr, F, ρ, S, h⟩ := h
  have h' : WPg K w EvRep Q fr F σ (if scalar x then some (.ok (.d x) ρ) else none) := h
  by_cases c : scalar x = true
  · rw [if_pos c] at h'
    exact h' F H _ S (Same.refl _) (Rp.sc c)
  · rw [if_neg c] at h'; exact h'.elim
theorem e_var (i : Nat) {x : Str} (hN : X.N[i]? = some x := by rfl) (hv : Vis X.env.scope x := by first | exact Or.inl rfl | exact Or.inr (Or.inl rfl) | exact Or.inr (Or.inr rfl)) (hd : (x == ("__debug__" : Str)) = false := by decide)
    (hcd : (x == ("__classdict__" : Str)) = false := by decide) : PE X (.Name x pos) (tE X.K w (mVar i)) := wkE (pe_var hN hv hd hcd) fun _ _ _ => var_of
theorem e_int {i j} : PE X (.Constant (.int i) j pos) (tE X.K w (mC (.int i))) := wkE pe_int fun _ _ _ => c_of
theorem e_str {i j} : PE X (.Constant (.str i) j pos) (tE X.K w (mC (.str i))) := wkE pe_str fun _ _ _ => c_of
theorem e_bl {i j} : PE X (.Constant (.bool i) j pos) (tE X.K w (mC (.bool i))) := wkE pe_bl fun _ _ _ => c_of
theorem e_non {j} : PE X (.Constant .none j pos) (tE X.K w (mC .none)) := wkE pe_non fun _ _ _ => c_of
theorem e_glob {x : Str} {y : PyData} {u : Value} (hg : Gl X x) (hm : X.mg x = some u) (r : RelV (toV y) u) (hd : (x == ("__debug__" : Str)) = false := by decide) : PE X (.Name x pos) (tE X.K w (mC y)) := wkE (pe_glob hg hm r hd) fun _ _ _ => c_of

/-! ### operators -/
theorem e_op {op : Operator} {f : PyData → PyData → Option Vr} {ma mb : ME} (ho : OpR X (binaryOp op) (rF f)) (ha : PE X a (tE X.K w ma)) (hb : PE X b (tE X.K w mb)) : PE X (.BinOp a op b pos) (tE X.K w (mOp2 f ma mb)) := wkE (pe_op ho ha hb) fun _ _ _ => op2_of
theorem e_cmp {op : CmpOp} {f : PyData → PyData → Option Vr} {ma mb : ME} (ho : OpR X (compareOp op) (rF f)) (ha : PE X a (tE X.K w ma)) (hb : PE X b (tE X.K w mb)) (hm : behindInMarks op b = false) : PE X (.Compare a [op] [b] pos) (tE X.K w (mOp2 f ma mb)) := wkE (pe_cmpR ho ha hb hm) fun _ _ _ => op2_of
theorem e_ix {f : PyData → PyData → Option Vr} {ma mb : ME} (ho : IxR X (rF f)) (ha : PE X a (tE X.K w ma)) (hb : PE X b (tE X.K w mb)) (hs : PlainIx b) : PE X (.Subscript a b pos) (tE X.K w (mOp2 f ma mb)) := wkE (pe_ix ho ha hb hs) fun _ _ _ => op2_of
theorem e_un {op : UnaryOp} {f : PyData → Option Vr} {ma : ME} (ho : UnR X (unaryOp op) (rF1 f)) (ha : PE X a (tE X.K w ma)) : PE X (.UnaryOp op a pos) (tE X.K w (mOp1 f ma)) := wkE (pe_un ho ha) fun _ _ _ => op1_of

/-! ### tests -/
/-- a value that is a bool -/
def mTest (ma : ME) : MT := fun ρ => bd (ma ρ) fun v ρ1 => match rd v ρ1 with
  | some (.bool c) => some (.ok c ρ1)
  | _ => none
theorem test_of {ma : ME} {Q : Bool → Hp → Prop} (h : tT K w (mTest ma) σ H Q) : tE K w ma σ H fun x H1 => ∃ c, x = .bl c ∧ Q c H1 := by
  obtain ⟨fr, F, ρ, S, h⟩ := h
  refine ⟨fr, F, ρ, S, h.bd fun v1 ρ1 F1 H1 u1 S1 s1 r1 h1 => ?_⟩
  cases e1 : rd v1 ρ1 with
  | none => rw [e1] at h1; exact h1.elim
  | some x =>
    rw [e1] at h1
    have vw := rd_ok S1 r1 e1
    match x, vw, h1 with
    | .bool c, vw, h1 => exact ⟨c, vw.sc rfl, h1 F1 H1 c S1 (Same.refl _) rfl⟩
theorem t_val {ma : ME} (h : PE X e (tE X.K w ma)) (he : ∀ whole, isTrue e X.env whole = (do let v ← whole; standAt e.pos; holding [v] (truthy v)) := by intro _; rfl) : PT X e (tT X.K w (mTest ma)) := wkT (pt_val h he) fun _ _ _ => test_of
theorem t_cmp {op : CmpOp} {f : PyData → PyData → Option Vr} {ma mb : ME} (ho : OpR X (compareOp op) (rF f)) (ha : PE X a (tE X.K w ma)) (hb : PE X b (tE X.K w mb)) (hm : behindInMarks op b = false) : PT X (.Compare a [op] [b] pos) (tT X.K w (mTest (mOp2 f ma mb))) := by
  refine wkT (pt_cmpR ho ha hb hm) fun _ _ _ h => ?_
  exact op2_of (test_of h)
def mAnd (ta tb : MT) : MT := fun ρ => bd (ta ρ) fun c ρ1 => if c then tb ρ1 else some (.ok false ρ1)
def mOr (ta tb : MT) : MT := fun ρ => bd (ta ρ) fun c ρ1 => if c then some (.ok true ρ1) else tb ρ1
def mNot (ta : MT) : MT := fun ρ => bd (ta ρ) fun c ρ1 => some (.ok (!c) ρ1)
variable {ta tb : MT} {rest : List Expr}
theorem w_and1 (ha : PT X a (tT X.K w ta)) : PW X (.BoolOp .And [a] pos) (tT X.K w ta) := pw_and1 ha
theorem w_or1 (ha : PT X a (tT X.K w ta)) : PW X (.BoolOp .Or [a] pos) (tT X.K w ta) := pw_or1 ha
theorem w_and (ha : PT X a (tT X.K w ta)) (hb : PW X (.BoolOp .And (b :: rest) pos) (tT X.K w tb)) : PW X (.BoolOp .And (a :: b :: rest) pos) (tT X.K w (mAnd ta tb)) := by
  refine wkW (pw_and ha hb) fun σ H Q h => ?_
  obtain ⟨fr, F, ρ, S, h⟩ := h
  refine ⟨fr, F, ρ, S, h.bd fun c ρ1 F1 H1 u1 S1 s1 r1 h1 => ?_⟩
  have r1 : u1 = c := r1
  subst r1
  cases u1 with
  | true => rw [if_pos rfl]; exact ⟨fr, F1, ρ1, S1, h1⟩
  | false => rw [if_neg Bool.false_ne_true]; exact h1 F1 H1 _ S1 (Same.refl _) rfl
theorem w_or (ha : PT X a (tT X.K w ta)) (hb : PW X (.BoolOp .Or (b :: rest) pos) (tT X.K w tb)) : PW X (.BoolOp .Or (a :: b :: rest) pos) (tT X.K w (mOr ta tb)) := by
  refine wkW (pw_or ha hb) fun σ H Q h => ?_
  obtain ⟨fr, F, ρ, S, h⟩ := h
  refine ⟨fr, F, ρ, S, h.bd fun c ρ1 F1 H1 u1 S1 s1 r1 h1 => ?_⟩
  have r1 : u1 = c := r1
  subst r1
  cases u1 with
  | true => rw [if_pos rfl]; exact h1 F1 H1 _ S1 (Same.refl _) rfl
  | false => rw [if_neg Bool.false_ne_true]; exact ⟨fr, F1, ρ1, S1, h1⟩
theorem t_not (ha : PT X a (tT X.K w ta)) : PT X (.UnaryOp .Not a pos) (tT X.K w (mNot ta)) := by
  refine wkT (pt_not ha) fun σ H Q h => ?_
  obtain ⟨fr, F, ρ, S, h⟩ := h
  refine ⟨fr, F, ρ, S, h.bd fun c ρ1 F1 H1 u1 S1 s1 r1 h1 => ?_⟩
  have r1 : u1 = c := r1
  subst r1
  exact h1 F1 H1 _ S1 (Same.refl _) rfl
def mIf (tc : MT) (ma mb : ME) : ME := fun ρ => bd (tc ρ) fun c ρ1 => if c then ma ρ1 else mb ρ1
theorem e_if {c : Expr} {tc : MT} {ma mb : ME} (hc : PT X c (tT X.K w tc)) (ha : PE X a (tE X.K w ma)) (hb : PE X b (tE X.K w mb)) : PE X (.IfExp c a b pos) (tE X.K w (mIf tc ma mb)) := by
  refine wkE (pe_ifExp hc ha hb) fun σ H Q h => ?_
  obtain ⟨fr, F, ρ, S, h⟩ := h
  refine ⟨fr, F, ρ, S, h.bd fun c ρ1 F1 H1 u1 S1 s1 r1 h1 => ?_⟩
  have r1 : u1 = c := r1
  subst r1
  cases u1 with
  | true => rw [if_pos rfl]; exact ⟨fr, F1, ρ1, S1, h1⟩
  | false => rw [if_neg Bool.false_ne_true]; exact ⟨fr, F1, ρ1, S1, h1⟩
/-- and, or, not as values; all but the last a bool -/
def mAndV (ma mb : ME) : ME := fun ρ => bd (mTest ma ρ) fun c ρ1 => if c then mb ρ1 else some (.ok (.d (.bool false)) ρ1)
def mOrV (ma mb : ME) : ME := fun ρ => bd (mTest ma ρ) fun c ρ1 => if c then some (.ok (.d (.bool true)) ρ1) else mb ρ1
def mNotV (ma : ME) : ME := fun ρ => bd (mTest ma ρ) fun c ρ1 => some (.ok (.d (.bool (!c))) ρ1)
/-- behind a test -/
theorem testV_of {ma : ME} {f : Bool → ME} {Q : VK} (h : tE K w (fun ρ => bd (mTest ma ρ) f) σ H Q) : tE K w ma σ H fun x H1 => ∃ c, x = .bl c ∧ tE K w (f c) σ H1 Q := by
  refine test_of (Q := fun c H1 => tE K w (f c) σ H1 Q) ?_
  obtain ⟨fr, F, ρ, S, h⟩ := h
  refine ⟨fr, F, ρ, S, h.bd fun c ρ1 F1 H1 u1 S1 s1 r1 h1 => ?_⟩
  have r1 : u1 = c := r1
  subst r1
  exact ⟨fr, F1, ρ1, S1, h1⟩
theorem bl_of {c : Bool} {Q : VK} (h : tE K w (fun ρ => some (.ok (.d (.bool c)) ρ)) σ H Q) : Q (.bl c) H := by
  obtain ⟨fr, F, ρ, S, h⟩ := h
  exact h F H _ S (Same.refl _) (.bl c)
theorem e_one {op} {ma : ME} (h : PE X a (tE X.K w ma)) : PE X (.BoolOp op [a] pos) (tE X.K w ma) := pe_one h
theorem e_and {ma mb : ME} (ha : PE X a (tE X.K w ma)) (hb : PE X (.BoolOp .And (b :: rest) pos) (tE X.K w mb)) : PE X (.BoolOp .And (a :: b :: rest) pos) (tE X.K w (mAndV ma mb)) := by
  refine wkE (pe_and ha hb) fun σ H Q h => ?_
  have h2 := testV_of (f := fun c => fun ρ1 => if c then mb ρ1 else some (.ok (.d (.bool false)) ρ1)) h
  obtain ⟨fr, F, ρ, S, h2⟩ := h2
  refine ⟨fr, F, ρ, S, h2.imp fun a ρ1 F1 H1 u S1 s1 r1 q => ?_⟩
  obtain ⟨c, e, q⟩ := q
  refine ⟨c, e, ?_⟩
  cases c with
  | true => rw [if_pos rfl]; exact q
  | false => rw [if_neg Bool.false_ne_true]; exact bl_of q
theorem e_or {ma mb : ME} (ha : PE X a (tE X.K w ma)) (hb : PE X (.BoolOp .Or (b :: rest) pos) (tE X.K w mb)) : PE X (.BoolOp .Or (a :: b :: rest) pos) (tE X.K w (mOrV ma mb)) := by
  refine wkE (pe_or ha hb) fun σ H Q h => ?_
  have h2 := testV_of (f := fun c => fun ρ1 => if c then some (.ok (.d (.bool true)) ρ1) else mb ρ1) h
  obtain ⟨fr, F, ρ, S, h2⟩ := h2
  refine ⟨fr, F, ρ, S, h2.imp fun a ρ1 F1 H1 u S1 s1 r1 q => ?_⟩
  obtain ⟨c, e, q⟩ := q
  refine ⟨c, e, ?_⟩
  cases c with
  | true => rw [if_pos rfl]; exact bl_of q
  | false => rw [if_neg Bool.false_ne_true]; exact q
theorem e_not {ma : ME} (ha : PE X a (tE X.K w ma)) : PE X (.UnaryOp .Not a pos) (tE X.K w (mNotV ma)) := by
  refine wkE (pe_not ha) fun σ H Q h => ?_
  have h2 := testV_of (f := fun c => fun ρ1 => some (.ok (.d (.bool (!c))) ρ1)) h
  obtain ⟨fr, F, ρ, S, h2⟩ := h2
  refine ⟨fr, F, ρ, S, h2.imp fun a ρ1 F1 H1 u S1 s1 r1 q => ?_⟩
  obtain ⟨c, e, q⟩ := q
  exact ⟨c, e, bl_of q⟩
/-- a op1 b op2 c -/
def mChain (f g : PyData → PyData → Option Vr) (ma mb mc : ME) : ME := fun ρ =>
  bd (ma ρ) fun v1 ρ1 => bd (mb ρ1) fun v2 ρ2 => match rd v1 ρ2, rd v2 ρ2 with
    | some x, some y => match f x y with
      | some (.it (.bool true)) => bd (mc ρ2) fun v3 ρ3 => match rd v2 ρ3, rd v3 ρ3 with
        | some y, some z => (g y z).map fun r => .ok (ofVr r) ρ3
        | _, _ => none
      | some (.it (.bool false)) => some (.ok (.d (.bool false)) ρ2)
      | _ => none
    | _, _ => none
theorem chain_of {f g : PyData → PyData → Option Vr} {ma mb mc : ME} {Q : VK} (h : tE K w (mChain f g ma mb mc) σ H Q) : tChain (rF f) (rF g) (tE K w ma) (tE K w mb) (tE K w mc) σ H Q := by
  obtain ⟨fr, F, ρ, S, h⟩ := h
  refine ⟨fr, F, ρ, S, h.bd fun v1 ρ1 F1 H1 u1 S1 s1 r1 h1 => ?_⟩
  obtain ⟨g1, le, Sg, back⟩ := hold S1 r1
  have h1' := h1.frame (g := g1) le S1.sA fun F' H' ρ' b a sm Sx q => (back F' H' ρ' Sx sm).2.2 _ _ q
  refine ⟨g1, F1, ρ1, Sg, h1'.bd fun v2 ρ2 F2 H2 u2 S2 s2 r2 h2 => ?_⟩
  obtain ⟨S2', r1', b2⟩ := back F2 H2 ρ2 S2 s2
  have r2' := b2 _ _ r2
  cases e1 : rd v1 ρ2 with
  | none => rw [e1] at h2; exact h2.elim
  | some x =>
    cases e2 : rd v2 ρ2 with
    | none => rw [e1, e2] at h2; exact h2.elim
    | some y =>
      rw [e1, e2] at h2
      have h3 : WPg K w EvRep Q g1 F2 σ (match f x y with
        | some (.it (.bool true)) => bd (mc ρ2) fun v3 ρ3 => match rd v2 ρ3, rd v3 ρ3 with
          | some y, some z => (g y z).map fun r => .ok (ofVr r) ρ3
          | _, _ => none
        | some (.it (.bool false)) => some (.ok (.d (.bool false)) ρ2)
        | _ => none) := h2
      refine ⟨F2, x, y, ?_⟩
      match e3 : f x y with
      | none => rw [e3] at h3; exact h3.elim
      | some (.li z) => rw [e3] at h3; exact h3.elim
      | some (.tu z) => rw [e3] at h3; exact h3.elim
      | some (.it (.none)) => rw [e3] at h3; exact h3.elim
      | some (.it (.int z)) => rw [e3] at h3; exact h3.elim
      | some (.it (.str z)) => rw [e3] at h3; exact h3.elim
      | some (.it (.list z)) => rw [e3] at h3; exact h3.elim
      | some (.it (.tuple z)) => rw [e3] at h3; exact h3.elim
      | some (.it (.dict z)) => rw [e3] at h3; exact h3.elim
      | some (.it (.bool false)) =>
        rw [e3] at h3
        refine ⟨_, S2.sF, rd_ok S2' r1' e1, rd_ok S2' r2' e2, rfl, fun v rv => ⟨false, rv.scV rfl, ?_⟩⟩
        rw [if_neg Bool.false_ne_true]
        exact h3 F2 H2 _ S2 (Same.refl _) (.bl false)
      | some (.it (.bool true)) =>
        rw [e3] at h3
        refine ⟨_, S2.sF, rd_ok S2' r1' e1, rd_ok S2' r2' e2, rfl, fun v rv => ⟨true, rv.scV rfl, ?_⟩⟩
        rw [if_pos rfl]
        obtain ⟨g2, le2, Sg2, back2⟩ := hold S2 r2
        have h3' := WPg.frame (g := g2) h3 le2 S2.sA fun F' H' ρ' b a sm Sx q => (back2 F' H' ρ' Sx sm).2.2 _ _ q
        refine ⟨g2, F2, ρ2, Sg2, h3'.bd fun v3 ρ3 F3 H3 u3 S3 s3 r3 h4 => ?_⟩
        obtain ⟨S3', r2'', b3⟩ := back2 F3 H3 ρ3 S3 s3
        have r3' := b3 _ _ r3
        cases e4 : rd v2 ρ3 with
        | none => rw [e4] at h4; exact h4.elim
        | some y' =>
          cases e5 : rd v3 ρ3 with
          | none => rw [e4, e5] at h4; exact h4.elim
          | some z =>
            rw [e4, e5] at h4
            have h5 : WPg K w EvRep Q g2 F3 σ ((g y' z).map fun r => .ok (ofVr r) ρ3) := h4
            cases e6 : g y' z with
            | none => rw [e6] at h5; exact h5.elim
            | some r =>
              rw [e6] at h5
              exact ⟨F3, y', z, r, S3.sF, rd_ok S3' r2'' e4, rd_ok S3' r3' e5, e6, WVr_of S3 h5⟩
theorem e_chain {c : Expr} {op op' : CmpOp} {f g : PyData → PyData → Option Vr} {ma mb mc : ME} (ho : OpR X (compareOp op) (rF f)) (ho' : OpR X (compareOp op') (rF g)) (ha : PE X a (tE X.K w ma)) (hb : PE X b (tE X.K w mb)) (hc : PE X c (tE X.K w mc))
    (hm : lastMarks [op, op'] [b, c] = false := by with_unfolding_all rfl) : PE X (.Compare a [op, op'] [b, c] pos) (tE X.K w (mChain f g ma mb mc)) := wkE (pe_chain ho ho' ha hb hc hm) fun _ _ _ => chain_of
theorem t_chain {c : Expr} {op op' : CmpOp} {f g : PyData → PyData → Option Vr} {ma mb mc : ME} (ho : OpR X (compareOp op) (rF f)) (ho' : OpR X (compareOp op') (rF g)) (ha : PE X a (tE X.K w ma)) (hb : PE X b (tE X.K w mb)) (hc : PE X c (tE X.K w mc))
    (hm : lastMarks [op, op'] [b, c] = false := by with_unfolding_all rfl) : PT X (.Compare a [op, op'] [b, c] pos) (tT X.K w (mTest (mChain f g ma mb mc))) := wkT (pt_chain ho ho' ha hb hc hm) fun _ _ _ h => chain_of (test_of h)
end
end Pv

/-! Argument lists, displays, statements, targets, loops, comprehensions, defs and their calls. -/
namespace Pv
open PySem PySem.Spec PyProof.Rows L2
section
variable {X : Cx} {e a b : Expr} {pos : Pos} {w : WC} {K : PySem.W.Frag} {fr : Fr} {F : Hp} {σ : L2.St} {H : Hp} {ρ : Rho}

/-! ### argument lists: each made data -/
def mNil : MI := fun ρ => some (.ok [] ρ)
def mFrz (me : ME) : Rho → Option (Rg PyData) := fun ρ => bd (me ρ) fun v ρ1 => (frz v ρ1).map fun p => .ok p.1 p.2
def mCons (me : ME) (ms : MI) : MI := fun ρ => bd (mFrz me ρ) fun x ρ2 => bd (ms ρ2) fun xs ρ3 => some (.ok (x :: xs) ρ3)
abbrev relX : RelT PyData V := fun _ F _ _ _ u x => Rp F u x
theorem frzM {me : ME} {Q : VK} (h : tM K w relX (mFrz me) σ H Q) : tE K w me σ H Q := by
  obtain ⟨fr, F, ρ, S, h⟩ := h
  refine ⟨fr, F, ρ, S, h.bd fun v ρ1 F1 H1 u S1 s1 r1 h1 => ?_⟩
  cases e1 : frz v ρ1 with
  | none => rw [e1] at h1; exact h1.elim
  | some p =>
    obtain ⟨x, ρ2⟩ := p
    rw [e1] at h1
    obtain ⟨F2, sm, S2, rp⟩ := frz_ok S1 r1 e1
    exact h1 F2 H1 u S2 sm rp
theorem bdM {α β γ δ : Type} {rel : RelT α β} {rel2 : RelT γ δ} {m : Rho → Option (Rg α)} {f : α → Rho → Option (Rg γ)} {Q : δ → Hp → Prop} {Q1 : β → Hp → Prop} (h : tM K w rel2 (fun ρ => bd (m ρ) f) σ H Q)
    (k : ∀ fr F ρ a H1 b, SR K fr F σ H1 ρ → rel fr F σ H1 ρ b a → WPg K w rel2 Q fr F σ (f a ρ) → Q1 b H1) : tM K w rel m σ H Q1 := by
  obtain ⟨fr, F, ρ, S, h⟩ := h
  exact ⟨fr, F, ρ, S, h.bd fun v ρ1 F1 H1 u S1 s1 r1 h1 => k fr F1 ρ1 v H1 u S1 r1 h1⟩
theorem a_nil : PA X [] (tA X.K w mNil) := wkA pa_nil fun σ H Q h => by
  obtain ⟨fr, F, ρ, S, h⟩ := h
  exact h F H [] S (Same.refl _) .nil
theorem a_cons {es : List Expr} {me : ME} {ms : MI} (ha : PE X e (tE X.K w me)) (hr : PA X es (tA X.K w ms)) (hs : starEach (e :: es) X.env = (false, eval e X.env) :: starEach es X.env := by rfl) : PA X (e :: es) (tA X.K w (mCons me ms)) := by
  refine wkA (pa_cons ha hr hs) fun σ H Q h => ?_
  refine frzM ?_
  refine bdM (rel := relX) h fun fr F ρ x H1 u S r h1 => ?_
  refine ⟨fr, F, ρ, S, h1.bd fun xs ρ2 F2 H2 us S2 s2 r2 h2 => ?_⟩
  exact h2 F2 H2 _ S2 (Same.refl _) (.cons (Rp.mono s2 _ _ r) r2)

/-! ### displays -/
def mTup (ms : MI) : ME := fun ρ => bd (ms ρ) fun xs ρ1 => if xs.length ≤ sizeLine then some (.ok (.d (.tuple xs)) ρ1) else none
def mLst (ms : MI) : ME := fun ρ => bd (ms ρ) fun xs ρ1 => if xs.length ≤ sizeLine then some (.ok (.o (.l xs)) ρ1) else none
theorem e_tup {es : List Expr} {ms : MI} {x1} (h : PA X es (tA X.K w ms)) : PE X (.Tuple es x1 pos) (tE X.K w (mTup ms)) := by
  refine wkE (pe_tup h) fun σ H Q h => ?_
  refine bdM (rel := relD) h fun fr F ρ xs H1 vs S r h1 => ?_
  by_cases c : xs.length ≤ sizeLine
  · rw [if_pos c] at h1
    exact ⟨by rw [r.length]; exact c, fun p n => WVr_of (r := .tu xs) S h1 vs p r n⟩
  · rw [if_neg c] at h1; exact h1.elim
theorem e_lst {es : List Expr} {ms : MI} (h : PA X es (tA X.K w ms)) : PE X (.List es pos) (tE X.K w (mLst ms)) := by
  refine wkE (pe_lst h) fun σ H Q h => ?_
  refine bdM (rel := relD) h fun fr F ρ xs H1 vs S r h1 => ?_
  by_cases c : xs.length ≤ sizeLine
  · rw [if_pos c] at h1
    exact ⟨by rw [r.length]; exact c, fun p n => WVr_of (r := .li xs) S h1 vs p r n⟩
  · rw [if_neg c] at h1; exact h1.elim

/-! ### built-in functions of data -/
def mOpN (f : List PyData → Option Vr) (ms : MI) : ME := fun ρ => bd (ms ρ) fun xs ρ1 => (f xs).map fun r => .ok (ofVr r) ρ1
def rFN (f : List PyData → Option Vr) : List V → Hp → VK → Prop := fun us H Q => ∃ F xs r, Same F H ∧ RpA F us xs ∧ f xs = some r ∧ WVr Q F H r
theorem opN_of {f : List PyData → Option Vr} {ms : MI} {Q : VK} (h : tE K w (mOpN f ms) σ H Q) : tCB (rFN f) (tA K w ms) σ H Q := by
  refine bdM (rel := relD) h fun fr F ρ xs H1 vs S r h1 => ?_
  cases e3 : f xs with
  | none => rw [e3] at h1; exact h1.elim
  | some z => rw [e3] at h1; exact ⟨F, xs, z, S.sF, r, e3, WVr_of S h1⟩
/-- .. of one argument, which is only read -/
def tA1 (te : TE) : TA := tCons te tNil
theorem op1c_of {f : PyData → Option Vr} {ma : ME} {Q : VK} {r : List V → Hp → VK → Prop} (hr : ∀ u H Q, rF1 f u H Q → r [u] H Q) (h : tE K w (mOp1 f ma) σ H Q) : tCB r (tA1 (tE K w ma)) σ H Q := by
  have h1 := op1_of h
  obtain ⟨fr, F, ρ, S, h1⟩ := h1
  exact ⟨fr, F, ρ, S, h1.imp fun _ _ _ H1 u _ _ _ q => hr u H1 Q q⟩
theorem e_call1 {x : Str} {id : String} {f : PyData → Option Vr} {ma : ME} {r : List V → Hp → VK → Prop} {p : Pos} (hc : CallR X (.builtin id) r) (hr : ∀ u H Q, rF1 f u H Q → r [u] H Q) (hg : Gl X x) (hm : X.mg x = none) (hv : bootBuiltins x = some (.builtin id)) (ha : PE X e (tE X.K w ma))
    (hn : x ≠ "__name__" := by decide) (hdb : (x == ("__debug__" : Str)) = false := by decide) (hs : starEach (e :: []) X.env = (false, eval e X.env) :: starEach [] X.env := by rfl) (hpl : (backTo pos (starEach [] X.env)).any (·.1) = false := by rfl) :
    PE X (.Call (.Name x p) [e] [] pos) (tE X.K w (mOp1 f ma)) :=
  wkE (pe_callB hc hg hm hv (pa_cons ha pa_nil hs) hn hdb hs hpl) fun _ _ _ h => op1c_of hr h
theorem e_callT1 {x : Str} {id : String} {f : PyData → Option Vr} {ma : ME} {r : List V → Hp → VK → Prop} {p : Pos} (hc : CallR X (.type id) r) (hr : ∀ u H Q, rF1 f u H Q → r [u] H Q) (hg : Gl X x) (hm : X.mg x = none) (hv : bootBuiltins x = some (.type id)) (ha : PE X e (tE X.K w ma))
    (hn : x ≠ "__name__" := by decide) (hdb : (x == ("__debug__" : Str)) = false := by decide) (hs : starEach (e :: []) X.env = (false, eval e X.env) :: starEach [] X.env := by rfl) (hpl : (backTo pos (starEach [] X.env)).any (·.1) = false := by rfl) :
    PE X (.Call (.Name x p) [e] [] pos) (tE X.K w (mOp1 f ma)) :=
  wkE (pe_callTy hc hg hm hv (pa_cons ha pa_nil hs) hn hdb hs hpl) fun _ _ _ h => op1c_of hr h
theorem e_callN {x : Str} {id : String} {f : List PyData → Option Vr} {ms : MI} {es : List Expr} {p : Pos} {r : List V → Hp → VK → Prop} (hc : CallR X (.builtin id) r) (hr : ∀ us H Q, rFN f us H Q → r us H Q) (hg : Gl X x) (hm : X.mg x = none) (hv : bootBuiltins x = some (.builtin id)) (ha : PA X (e :: es) (tA X.K w ms))
    (hn : x ≠ "__name__" := by decide) (hdb : (x == ("__debug__" : Str)) = false := by decide) (hs : starEach (e :: es) X.env = (false, eval e X.env) :: starEach es X.env := by rfl) (hpl : (backTo pos (starEach es X.env)).any (·.1) = false := by rfl) :
    PE X (.Call (.Name x p) (e :: es) [] pos) (tE X.K w (mOpN f ms)) := by
  refine wkE (pe_callB hc hg hm hv ha hn hdb hs hpl) fun _ _ _ h => ?_
  obtain ⟨fr, F, ρ, S, h1⟩ := opN_of h
  exact ⟨fr, F, ρ, S, h1.imp fun _ _ _ H1 u _ _ _ q => hr u H1 _ q⟩

/-! ### stores -/
def asg (i : Nat) (v : Ev) (ρ : Rho) : Option Rho :=
  match ρ[i]? with
  | some (.r _) => none
  | none => none
  | _ => match v with
    | .d x => some (ρ.set i (.d x))
    | .o c => some (ρ.set i (.o c))
    | .b j => match ρ[j]? with
      | some (.d x) => some (ρ.set i (.d x))
      | some (.scr ns) => some (ρ.set i (.scr ns))
      | some (.o c) => if i = j then none else some ((ρ.set j .no).set i (.o c))
      | _ => none
theorem SR.put (S : SR K fr F σ H ρ) {i : Nat} {u : V} {s : Sl} (hi : i < ρ.length) (nr : ∀ c, s ≠ .r c) (ok : ∀ σ', σ'[i]? = some (some u) → SlOk fr F σ' H i s) (no : ∀ c, s = .o c → ∀ j, j ≠ i → Own ρ j → σ[j]? ≠ some (some u)) : SR K fr F (σ.set i (some u)) H (ρ.set i s) := by
  have hi2 : i < σ.length := by rw [← S.len]; exact hi
  refine ⟨by simpa using S.len, S.sF, S.sZ, S.dj, S.sA, fun j t q => ?_, fun j k p w1 w2 q1 q2 => ?_, S.x⟩
  · by_cases hj : j = i
    · subst hj; rw [List.getElem?_set_self hi] at q; cases q
      exact ok _ (List.getElem?_set_self hi2)
    · rw [List.getElem?_set_ne (Ne.symm hj)] at q
      have z := S.sl j t q
      cases t with
      | no => trivial
      | d x => obtain ⟨v, a, b⟩ := z; exact ⟨v, by rw [List.getElem?_set_ne (Ne.symm hj)]; exact a, b⟩
      | o c => obtain ⟨v, a, b⟩ := z; exact ⟨v, by rw [List.getElem?_set_ne (Ne.symm hj)]; exact a, b⟩
      | r c => obtain ⟨v, y, a, b⟩ := z; exact ⟨v, y, by rw [List.getElem?_set_ne (Ne.symm hj)]; exact a, b⟩
      | scr c => obtain ⟨v, a, b⟩ := z; exact ⟨v, by rw [List.getElem?_set_ne (Ne.symm hj)]; exact a, b⟩
  · have back : ∀ {j}, j ≠ i → Own (ρ.set i s) j → Own ρ j := fun {j} hj ⟨c, z⟩ => by
      rw [List.getElem?_set_ne (Ne.symm hj)] at z; exact ⟨c, z⟩
    have self : Own (ρ.set i s) i → ∃ c, s = .o c := fun ⟨c, z⟩ => by
      rw [List.getElem?_set_self hi] at z
      rcases z with z | z
      · cases z; exact ⟨c, rfl⟩
      · cases z; exact absurd rfl (nr c)
    by_cases hj : j = i
    · by_cases hk : k = i
      · rw [hj, hk]
      · subst hj
        obtain ⟨c, e⟩ := self w1
        rw [List.getElem?_set_self hi2] at q1
        rw [List.getElem?_set_ne (Ne.symm hk)] at q2
        cases q1
        exact absurd q2 (no c e k hk (back hk w2))
    · by_cases hk : k = i
      · subst hk
        obtain ⟨c, e⟩ := self w2
        rw [List.getElem?_set_self hi2] at q2
        rw [List.getElem?_set_ne (Ne.symm hj)] at q1
        cases q2
        exact absurd q1 (no c e j hj (back hj w1))
      · rw [List.getElem?_set_ne (Ne.symm hj)] at q1
        rw [List.getElem?_set_ne (Ne.symm hk)] at q2
        exact S.inj j k p (back hj w1) (back hk w2) q1 q2
/-- forget a slot -/
theorem SR.drop (S : SR K fr F σ H ρ) (j : Nat) : SR K fr F σ H (ρ.set j .no) := by
  refine ⟨by simpa using S.len, S.sF, S.sZ, S.dj, S.sA, fun i s q => ?_, fun i k p w1 w2 => ?_, S.x⟩
  · by_cases hj : i = j
    · subst hj
      have hi : i < ρ.length := by have := get_of_lt q; simpa using this
      rw [List.getElem?_set_self hi] at q; cases q; trivial
    · rw [List.getElem?_set_ne (Ne.symm hj)] at q; exact S.sl i s q
  · have back : ∀ {i}, Own (ρ.set j .no) i → Own ρ i := fun {i} ⟨c, z⟩ => by
      by_cases hj : i = j
      · subst hj
        have hi : i < ρ.length := by rcases z with z | z <;> (have := get_of_lt z; simpa using this)
        rw [List.getElem?_set_self hi] at z; rcases z with z | z <;> cases z
      · rw [List.getElem?_set_ne (Ne.symm hj)] at z; exact ⟨c, z⟩
    exact S.inj i k p (back w1) (back w2)
theorem asg_ok (S : SR K fr F σ H ρ) {u : V} {v : Ev} {i : Nat} {ρ' : Rho} (r : EvRep fr F σ H ρ u v) (e : asg i v ρ = some ρ') : SR K fr F (σ.set i (some u)) H ρ' := by
  unfold asg at e
  cases h : ρ[i]? with
  | none => rw [h] at e; cases e
  | some t =>
    have hi := get_of_lt h
    have main : ∀ {ρ'}, (match v with
      | .d x => some (ρ.set i (.d x))
      | .o c => some (ρ.set i (.o c))
      | .b j => match ρ[j]? with
        | some (.d x) => some (ρ.set i (.d x))
        | some (.scr ns) => some (ρ.set i (.scr ns))
        | some (.o c) => if i = j then none else some ((ρ.set j .no).set i (.o c))
        | _ => none) = some ρ' → SR K fr F (σ.set i (some u)) H ρ' := fun {ρ'} e => by
      match v, r, e with
      | .d x, r, e => cases e; exact S.put hi (fun _ z => nomatch z) (fun σ' q => ⟨u, q, r⟩) fun _ z => nomatch z
      | .o c, r, e =>
        cases e
        obtain ⟨p, rfl, nF, nZ, no, rep⟩ := r
        exact S.put hi (fun _ z => nomatch z) (fun σ' q => ⟨p, q, nF, nZ, rep⟩) fun c' _ j _ w => no j w
      | .b j, r, e =>
        have r' : σ[j]? = some (some u) := r
        replace e : (match ρ[j]? with
          | some (.d x) => some (ρ.set i (.d x))
          | some (.scr ns) => some (ρ.set i (.scr ns))
          | some (.o c) => if i = j then none else some ((ρ.set j .no).set i (.o c))
          | _ => none) = some ρ' := e
        cases h2 : ρ[j]? with
        | none => rw [h2] at e; cases e
        | some t2 =>
          rw [h2] at e
          match t2, h2, e with
          | .d x, h2, e =>
            cases e
            obtain ⟨v, a, b⟩ := S.at h2
            rw [r'] at a; cases a
            exact S.put hi (fun _ z => nomatch z) (fun σ' q => ⟨u, q, b⟩) fun _ z => nomatch z
          | .scr ns, h2, e =>
            cases e
            obtain ⟨v, a, b⟩ := S.at h2
            rw [r'] at a; cases a
            exact S.put hi (fun _ z => nomatch z) (fun σ' q => ⟨v, q, b⟩) fun _ z => nomatch z
          | .o c, h2, e =>
            have e' : (if i = j then none else some ((ρ.set j .no).set i (.o c))) = some ρ' := e
            by_cases hij : i = j
            · rw [if_pos hij] at e'; cases e'
            · rw [if_neg hij] at e'
              cases e'
              obtain ⟨p, a, nF, nZ, rep⟩ := S.at h2
              rw [r'] at a; cases a
              refine (S.drop j).put (by simpa using hi) (fun _ z => nomatch z) (fun σ' q => ⟨p, q, nF, nZ, rep⟩) fun c' _ k hk w q => ?_
              have hj := get_of_lt h2
              obtain ⟨c2, z⟩ := w
              by_cases hkj : k = j
              · subst hkj; rw [List.getElem?_set_self hj] at z; rcases z with z | z <;> cases z
              · rw [List.getElem?_set_ne (Ne.symm hkj)] at z
                exact hkj (S.inj k j p ⟨c2, z⟩ ⟨c, .inl h2⟩ q r')
    rw [h] at e
    cases t with
    | r c => cases e
    | no => exact main e
    | d x => exact main e
    | o c => exact main e
    | scr c => exact main e

/-! ### statements -/
def mPass : MS := fun ρ => some (.nx ρ)
def mSeq (m1 m2 : MS) : MS := fun ρ => match m1 ρ with
  | some (.nx ρ1) => m2 ρ1
  | r => r
def mIfS (tc : MT) (m1 m2 : MS) : MS := fun ρ => bS (tc ρ) fun c ρ1 => if c then m1 ρ1 else m2 ρ1
def mSet (i : Nat) (me : ME) : MS := fun ρ => bS (me ρ) fun v ρ1 => (asg i v ρ1).map .nx
def retv (v : Ev) (ρ : Rho) : Option Fl := match v with
  | .b i => match ρ[i]? with
    | some (.d x) => some (.rt (.d x) ρ)
    | some (.o c) => some (.rt (.o c) (ρ.set i .no))
    | _ => none
  | v => some (.rt v ρ)
def mRet (me : ME) : MS := fun ρ => bS (me ρ) fun v ρ1 => retv v ρ1
def mExp (me : ME) : MS := fun ρ => bS (me ρ) fun _ ρ1 => some (.nx ρ1)
def mNever : MS := fun _ => none
def mBreak : MS := fun ρ => some (.bk ρ)
def mCont : MS := fun ρ => some (.ct ρ)
variable {st : Stmt} {rest : List Stmt} {m m1 m2 : MS}
theorem s_nil : PSs X [] (tS X.K w mPass) := wkSs pss_nil fun D σ H ⟨fr, F, ρ, S, h⟩ => h F σ H S (Same.refl _)
theorem s_pass : PS X (.Pass pos) (tS X.K w mPass) := wkS ps_pass fun D σ H ⟨fr, F, ρ, S, h⟩ => h F σ H S (Same.refl _)
theorem s_break : PS X (.Break pos) (tS X.K w mBreak) := wkS ps_break fun D σ H ⟨fr, F, ρ, S, h⟩ => h F σ H S (Same.refl _)
theorem s_continue : PS X (.Continue pos) (tS X.K w mCont) := wkS ps_continue fun D σ H ⟨fr, F, ρ, S, h⟩ => h F σ H S (Same.refl _)
theorem s_never : PS X st (tS X.K w mNever) := wkS ps_never fun D σ H ⟨fr, F, ρ, S, h⟩ => h.elim
theorem s_one (h : PS X st (tS X.K w m)) : PSs X [st] (tS X.K w m) := pss_one h
theorem s_cons (h1 : PS X st (tS X.K w m1)) (h2 : PSs X rest (tS X.K w m2)) : PSs X (st :: rest) (tS X.K w (mSeq m1 m2)) := by
  refine wkSs (pss_cons h1 h2) fun D σ H ⟨fr, F, ρ, S, h⟩ => ?_
  refine ⟨fr, F, ρ, S, ?_⟩
  have h' : WPs X.K w D fr F (match m1 ρ with
    | some (.nx ρ1) => m2 ρ1
    | r => r) := h
  cases e : m1 ρ with
  | none => rw [e] at h'; exact h'
  | some f =>
    rw [e] at h'
    cases f with
    | nx ρ1 => exact fun F' σ' H' S' sm => ⟨fr, F', ρ1, S', WPs.mono h' sm⟩
    | rt v ρ1 => exact h'
    | bk ρ1 => exact h'
    | ct ρ1 => exact h'
    | er x ρ1 => exact h'
theorem s_if {c : Expr} {xs ys : List Stmt} {tc : MT} (hc : PT X c (tT X.K w tc)) (ha : PSs X xs (tS X.K w m1)) (hb : PSs X ys (tS X.K w m2)) : PS X (.If c xs ys pos) (tS X.K w (mIfS tc m1 m2)) := by
  refine wkS (ps_if hc ha hb) fun D σ H ⟨fr, F, ρ, S, h⟩ => ?_
  refine ⟨fr, F, ρ, S, h.bd (rel := relB) S fun c ρ1 F1 H1 u S1 s1 r1 h1 => ?_⟩
  have r1 : u = c := r1
  subst r1
  cases u with
  | true => rw [if_pos rfl]; exact ⟨fr, F1, ρ1, S1, h1⟩
  | false => rw [if_neg Bool.false_ne_true]; exact ⟨fr, F1, ρ1, S1, h1⟩
theorem s_set {i : Nat} {x : Str} {me : ME} {pos' : Pos} (hN : X.N.Nodup) (hi : X.N[i]? = some x) (hx : Loc X.env.scope x) (he : PE X e (tE X.K w me)) (hs : swapsWith e (some (.Name x pos')) pos.line X.env = pure false := by rfl) (hf : X.fn x = true ∨ X.env.scope.names.lookup x = some .local := by first | exact .inl rfl | exact .inr rfl | assumption) :
    PS X (.Assign [.Name x pos'] e pos) (tS X.K w (mSet i me)) := by
  refine wkS (ps_set (i := i) hN hi hx he hs hf) fun D σ H ⟨fr, F, ρ, S, h⟩ => ?_
  refine ⟨fr, F, ρ, S, h.bd (rel := EvRep) S fun v ρ1 F1 H1 u S1 s1 r1 h1 => ?_⟩
  show D.nx (σ.set i (some u)) H1
  cases e1 : asg i v ρ1 with
  | none => rw [e1] at h1; exact h1.elim
  | some ρ2 => rw [e1] at h1; exact h1 F1 _ H1 (asg_ok S1 r1 e1) (Same.refl _)
theorem s_exp {me : ME} (he : PE X e (tE X.K w me)) (hs : swapsWith e none pos.line X.env = pure false := by rfl) : PS X (.Expr e pos) (tS X.K w (mExp me)) := by
  refine wkS (ps_expr he hs) fun D σ H ⟨fr, F, ρ, S, h⟩ => ?_
  exact ⟨fr, F, ρ, S, h.bd (rel := EvRep) S fun v ρ1 F1 H1 u S1 s1 r1 h1 => h1 F1 σ H1 S1 (Same.refl _)⟩
theorem s_ret {me : ME} (he : PE X e (tE X.K w me)) : PS X (.Return (some e) pos) (tS X.K w (mRet me)) := by
  refine wkS (ps_ret he) fun D σ H ⟨fr, F, ρ, S, h⟩ => ?_
  refine ⟨fr, F, ρ, S, h.bd (rel := EvRep) S fun v ρ1 F1 H1 u S1 s1 r1 h1 => ?_⟩
  match v, r1, h1 with
  | .d x, r1, h1 => exact h1 F1 σ H1 u S1 (Same.refl _) r1
  | .o c, r1, h1 => exact h1 F1 σ H1 u S1 (Same.refl _) r1
  | .b i, r1, h1 =>
    have r' : σ[i]? = some (some u) := r1
    have h2 : WPs X.K w D fr F1 (match ρ1[i]? with
      | some (.d x) => some (.rt (.d x) ρ1)
      | some (.o c) => some (.rt (.o c) (ρ1.set i .no))
      | _ => none) := h1
    cases e : ρ1[i]? with
    | none => rw [e] at h2; exact h2.elim
    | some s =>
      rw [e] at h2
      match s, e, h2 with
      | .d x, e, h2 =>
        obtain ⟨v, a, b⟩ := S1.at e
        rw [r'] at a; cases a
        exact h2 F1 σ H1 u S1 (Same.refl _) b
      | .o c, e, h2 =>
        obtain ⟨p, a, nF, nZ, rep⟩ := S1.at e
        rw [r'] at a; cases a
        refine h2 F1 σ H1 _ (S1.drop i) (Same.refl _) ⟨p, rfl, nF, nZ, fun j ⟨c2, z⟩ q => ?_, rep⟩
        have hi := get_of_lt e
        by_cases hj : j = i
        · subst hj; rw [List.getElem?_set_self hi] at z; rcases z with z | z <;> cases z
        · rw [List.getElem?_set_ne (Ne.symm hj)] at z
          exact hj (S1.inj j i p ⟨c2, z⟩ ⟨c, .inl e⟩ q r')

/-! ### targets -/
abbrev MG := PyData → Rho → Option Rho
abbrev MGs := List PyData → Rho → Option Rho
def tG (K : PySem.W.Frag) (ts : List Nat) (m : MG) : TG := fun v σ H Q => ∃ fr F ρ x ρ', SR K fr F σ H ρ ∧ Rp F v x ∧ m x ρ = some ρ' ∧ ∀ σ', SR K fr F σ' H ρ' → (∀ vs : List Nat, (∀ i ∈ ts, i ∈ vs) → wipe σ' vs = wipe σ vs) → Q σ' H
def tGs (K : PySem.W.Frag) (ts : List Nat) (m : MGs) : TGs := fun v σ H Q => ∃ fr F ρ x ρ', SR K fr F σ H ρ ∧ RpA F v x ∧ m x ρ = some ρ' ∧ ∀ σ', SR K fr F σ' H ρ' → (∀ vs : List Nat, (∀ i ∈ ts, i ∈ vs) → wipe σ' vs = wipe σ vs) → Q σ' H
def gNm (i : Nat) : MG := fun x ρ => asg i (.d x) ρ
def gsNil : MGs := fun xs ρ => match xs with
  | [] => some ρ
  | _ => none
def gsCons (g : MG) (gs : MGs) : MGs := fun xs ρ => match xs with
  | x :: r => (g x ρ).bind (gs r)
  | [] => none
def gTp (n : Nat) (gs : MGs) : MG := fun x ρ => match x with
  | .tuple xs => if xs.length = n then gs xs ρ else none
  | _ => none
theorem wipe_get {σ : L2.St} {j : Nat} : ∀ {vs : List Nat}, j < σ.length → (wipe σ vs)[j]? = if j ∈ vs then some none else σ[j]?
  | [], h => by simp [wipe]
  | k :: vs, h => by
    show ((wipe σ vs).set k none)[j]? = _
    by_cases hk : k = j
    · subst hk
      rw [List.getElem?_set_self (by rw [wipe_length]; exact h)]
      simp
    · rw [List.getElem?_set_ne hk, wipe_get h]
      simp [Ne.symm hk]
theorem wipe_ext {σ σ' : L2.St} {vs : List Nat} (hl : σ'.length = σ.length) (h : ∀ j, j ∉ vs → σ'[j]? = σ[j]?) : wipe σ' vs = wipe σ vs := by
  apply List.ext_getElem?
  intro j
  by_cases hj : j < σ.length
  · rw [wipe_get hj, wipe_get (by rw [hl]; exact hj)]
    by_cases q : j ∈ vs
    · simp [q]
    · simp [q, h j q]
  · rw [List.getElem?_eq_none (by rw [wipe_length]; omega), List.getElem?_eq_none (by rw [wipe_length]; omega)]
theorem g_name {i : Nat} {x : Str} (hN : X.N.Nodup) (hi : X.N[i]? = some x) (hx : Loc X.env.scope x) (hf : X.fn x = true ∨ X.env.scope.names.lookup x = some .local := by first | exact .inl rfl | exact .inr rfl | assumption) : PG X (.Name x pos) (tG X.K [i] (gNm i)) := by
  refine wkG (pg_name hN hi hx hf) fun v σ H Q ⟨fr, F, ρ, x, ρ', S, r, e, k⟩ => ?_
  refine k _ (asg_ok (v := .d x) S r e) fun vs hv => wipe_ext (by simp) fun j hj => ?_
  exact List.getElem?_set_ne fun z => hj (by rw [← z]; exact hv i (by simp))
theorem gs_nil : PGs X [] (tGs X.K [] gsNil) := by
  refine wkGs pgs_nil fun vs σ H Q ⟨fr, F, ρ, xs, ρ', S, r, e, k⟩ => ?_
  cases r with
  | nil => cases e; exact ⟨rfl, k σ S fun _ _ => rfl⟩
  | cons _ _ => cases e
theorem gs_cons {es : List Expr} {g : MG} {gs : MGs} {ts us : List Nat} (h1 : PG X e (tG X.K ts g)) (h2 : PGs X es (tGs X.K us gs)) (hs : (assignEach (e :: es) X.env).map (·.2) = assign e X.env :: (assignEach es X.env).map (·.2) := by rfl) : PGs X (e :: es) (tGs X.K (ts ++ us) (gsCons g gs)) := by
  refine wkGs (pgs_cons h1 h2 hs) fun vs σ H Q ⟨fr, F, ρ, xs, ρ', S, r, e, k⟩ => ?_
  match vs, xs, r, e with
  | _, _, .nil, e => cases e
  | _, _, @RpA.cons _ v vs' x xs' r rr, e =>
    refine ⟨v, vs', rfl, ?_⟩
    have e' : (g x ρ).bind (gs xs') = some ρ' := e
    cases e1 : g x ρ with
    | none => rw [e1] at e'; cases e'
    | some ρ1 =>
      rw [e1] at e'
      refine ⟨fr, F, ρ, x, ρ1, S, r, e1, fun σ1 S1 w1 => ⟨fr, F, ρ1, xs', ρ', S1, rr, e', fun σ2 S2 w2 => k σ2 S2 fun ws hw => ?_⟩⟩
      rw [w2 ws fun i hi => hw i (List.mem_append_right _ hi), w1 ws fun i hi => hw i (List.mem_append_left _ hi)]
theorem g_tup {es : List Expr} {k : Nat} {gs : MGs} {ts : List Nat} {n : Nat} (hc : X.calm = true) (h : PGs X es (tGs X.K ts gs)) (hn : (assignEach es X.env).length = n := by rfl) (hst : (assignEach es X.env).findIdx? (·.1) = none := by rfl) : PG X (.Tuple es k pos) (tG X.K ts (gTp n gs)) := by
  refine wkG (pg_tup (n := n) hc h hn hst) fun v σ H Q ⟨fr, F, ρ, x, ρ', S, r, e, k⟩ => ?_
  match v, x, r, e with
  | _, .tuple xs, @Rp.tup _ a vs _ e1 a1, e =>
      have e' : (if xs.length = n then gs xs ρ else none) = some ρ' := e
      by_cases c : xs.length = n
      · rw [if_pos c] at e'
        exact ⟨a, vs, rfl, SqT.of (S.sF _ _ e1), by rw [a1.length]; exact c, fr, F, ρ, xs, ρ', S, a1, e', k⟩
      · rw [if_neg c] at e'; cases e'
/-- target = e by a tuple -/
def mAsgT (g : MG) (me : ME) : MS := fun ρ => bS (mFrz me ρ) fun x ρ1 => (g x ρ1).map .nx
theorem s_asg {tg : Expr} {g : MG} {ts : List Nat} {me : ME} (he : PE X e (tE X.K w me)) (hg : PG X tg (tG X.K ts g)) (hs : swapsWithSole [tg] e pos.line X.env = pure false := by rfl) (hw : swappedStores [tg] e X.env = pure none := by rfl)
    (h1 : (assignEach [tg] X.env).map (·.2) = [assign tg X.env] := by rfl) : PS X (.Assign [tg] e pos) (tS X.K w (mAsgT g me)) := by
  refine wkS (ps_asg he hg hs hw h1) fun D σ H ⟨fr, F, ρ, S, h⟩ => ?_
  refine frzM (K := X.K) (w := w) ⟨fr, F, ρ, S, h.bd (rel := relX) S fun x ρ1 F1 H1 u S1 s1 r1 h1 => ?_⟩
  cases e1 : g x ρ1 with
  | none => rw [e1] at h1; exact h1.elim
  | some ρ2 => rw [e1] at h1; exact ⟨fr, F1, ρ1, x, ρ2, S1, r1, e1, fun σ' S' _ => h1 F1 σ' H1 S' (Same.refl _)⟩

/-! ### for -/
def loopF (g : MG) (b : MS) : List PyData → Rho → Option Fl
  | [], ρ => some (.nx ρ)
  | x :: xs, ρ => match g x ρ with
    | none => none
    | some ρ1 => match b ρ1 with
      | some (.nx ρ2) => loopF g b xs ρ2
      | some (.ct ρ2) => loopF g b xs ρ2
      | some (.bk ρ2) => some (.nx ρ2)
      | r => r
def mFor (mi : MI) (g : MG) (b : MS) : MS := fun ρ => bS (mi ρ) fun xs ρ1 => loopF g b xs ρ1
theorem SR.grow (S : SR K fr F σ H ρ) {F' H' : Hp} (g : Grow F H F' H') : SR K fr F' σ H' ρ := by
  obtain ⟨g1, g2, g3, g4, g5⟩ := g
  refine ⟨S.len, g3, S.sZ.trans g2, fun b o e => g4 b o (S.sZ _ _ e) (S.dj b o e), S.sA, fun i s e => (S.sl i s e).mono g1 (fun p n ⟨o, z⟩ => g4 p o z n) (fun p o _ z => g2 p o z), S.inj, S.x.ext g2 fun b ps z => S.x.fq b ps (g5 b ps z)⟩
theorem s_for {tg iter : Expr} {body : List Stmt} {mi : MI} {g : MG} {ts : List Nat} {b : MS} (hp : PassesOwn (model X.prog X.w) X.A X.env X.xe) (hc : X.calm = true) (hi : PI X tg iter (tI X.K w mi)) (hg : PG X tg (tG X.K ts g)) (hb : PSs X body (tS X.K w b))
    (hs : ∀ x, foldedSetIterable iter X.env x = pure x := by intro _; rfl) : PS X (.For tg iter body [] pos) (tS X.K w (mFor mi g b)) := by
  refine wkS (ps_for hp hc hi hg hb hs) fun D σ H ⟨fr, F, ρ, S, h⟩ => ?_
  refine ⟨fr, F, ρ, S, h.bd (rel := relI) S fun ds ρ1 F1 H1 J S1 s1 wk h1 => ?_⟩
  refine ⟨fun i m σ H => i + m = ds.length ∧ ∃ F' ρ, Same F1 F' ∧ SR X.K fr F' σ H ρ ∧ WPs X.K w D fr F' (loopF g b (ds.drop i) ρ), ⟨ds.length, by omega, F1, ρ1, Same.refl _, S1, h1⟩, fun i m σ2 H2 hW => ?_⟩
  obtain ⟨em, F2, ρ2, sm2, S2, h2⟩ := hW
  have wk2 := wk i F2 H2 sm2 S2.sF
  cases m with
  | zero =>
    refine .inl ⟨wk2.2 (by omega), ?_⟩
    rw [List.drop_of_length_le (by omega)] at h2
    exact h2 F2 σ2 H2 S2 (Same.refl _)
  | succ m =>
    have hi : i < ds.length := by omega
    have ex : ds[i]? = some ds[i] := List.getElem?_eq_getElem hi
    obtain ⟨go, yl⟩ := wk2.1 _ ex
    refine .inr ⟨go, fun σ' H' => i + 1 + m = ds.length ∧ ∃ F' ρ, Same F1 F' ∧ SR X.K fr F' σ' H' ρ ∧ WPs X.K w D fr F' (loopF g b (ds.drop (i + 1)) ρ), fun σ' H' n => ⟨m, by omega, n⟩, fun y H3 hy => ?_⟩
    obtain ⟨F3, gr, rp⟩ := yl y H3 hy
    have S3 := S2.grow gr
    rw [List.drop_eq_getElem_cons hi] at h2
    have h3 : WPs X.K w D fr F2 (match g ds[i] ρ2 with
      | none => none
      | some ρ1 => match b ρ1 with
        | some (.nx ρ2) => loopF g b (ds.drop (i + 1)) ρ2
        | some (.ct ρ2) => loopF g b (ds.drop (i + 1)) ρ2
        | some (.bk ρ2) => some (.nx ρ2)
        | r => r) := h2
    cases eg : g ds[i] ρ2 with
    | none => rw [eg] at h3; exact h3.elim
    | some ρ3 =>
      rw [eg] at h3
      refine ⟨fr, F3, ρ2, ds[i], ρ3, S3, rp, eg, fun σ4 S4 _ => ⟨fr, F3, ρ3, S4, ?_⟩⟩
      have h4 : WPs X.K w D fr F3 (match b ρ3 with
        | some (.nx ρ2) => loopF g b (ds.drop (i + 1)) ρ2
        | some (.ct ρ2) => loopF g b (ds.drop (i + 1)) ρ2
        | some (.bk ρ2) => some (.nx ρ2)
        | r => r) := h3.mono gr.1
      have smA : Same F1 F3 := sm2.trans gr.1
      cases eb : b ρ3 with
      | none => rw [eb] at h4; exact h4.elim
      | some f =>
        rw [eb] at h4
        cases f with
        | nx ρ5 => exact fun F' σ' H' S' sm => ⟨by omega, F', ρ5, smA.trans sm, S', WPs.mono h4 sm⟩
        | ct ρ5 => exact fun F' σ' H' S' sm => ⟨by omega, F', ρ5, smA.trans sm, S', WPs.mono h4 sm⟩
        | bk ρ5 => exact h4
        | rt v ρ5 => exact h4
        | er x ρ5 => exact h4

/-! ### comprehensions -/
def wipeR (ρ : Rho) : List Nat → Rho
  | [] => ρ
  | k :: vs => (wipeR ρ vs).set k .no
theorem wipeR_length (ρ : Rho) : ∀ vs : List Nat, (wipeR ρ vs).length = ρ.length
  | [] => rfl
  | k :: vs => by show ((wipeR ρ vs).set k .no).length = _; rw [List.length_set]; exact wipeR_length ρ vs
theorem wipeR_get {j : Nat} {s : Sl} : ∀ {vs : List Nat}, (wipeR ρ vs)[j]? = some s → s = .no ∨ (j ∉ vs ∧ ρ[j]? = some s)
  | [], h => .inr ⟨by simp, h⟩
  | k :: vs, h => by
    have h' : ((wipeR ρ vs).set k .no)[j]? = some s := h
    by_cases hk : k = j
    · subst hk
      have hl : k < (wipeR ρ vs).length := by have := get_of_lt h'; simpa using this
      rw [List.getElem?_set_self hl] at h'
      cases h'; exact .inl rfl
    · rw [List.getElem?_set_ne hk] at h'
      rcases wipeR_get h' with z | ⟨z1, z2⟩
      · exact .inl z
      · exact .inr ⟨by simp [Ne.symm hk, z1], z2⟩
/-- slots forgotten, on both sides -/
theorem SR.wipe (S : SR K fr F σ H ρ) {σ' : L2.St} {vs : List Nat} (hl : σ'.length = σ.length) (h : ∀ j, j ∉ vs → σ'[j]? = σ[j]?) : SR K fr F σ' H (wipeR ρ vs) := by
  refine ⟨by rw [wipeR_length, hl]; exact S.len, S.sF, S.sZ, S.dj, S.sA, fun i s q => ?_, fun i j p w1 w2 q1 q2 => ?_, S.x⟩
  · rcases wipeR_get q with rfl | ⟨hi, q⟩
    · trivial
    · have z := S.sl i s q
      have e := h i hi
      cases s with
      | no => trivial
      | d x => obtain ⟨v, a, b⟩ := z; exact ⟨v, by rw [e]; exact a, b⟩
      | o c => obtain ⟨v, a, b⟩ := z; exact ⟨v, by rw [e]; exact a, b⟩
      | r c => obtain ⟨v, y, a, b⟩ := z; exact ⟨v, y, by rw [e]; exact a, b⟩
      | scr c => obtain ⟨v, a, b⟩ := z; exact ⟨v, by rw [e]; exact a, b⟩
  · have back : ∀ {j}, Own (wipeR ρ vs) j → j ∉ vs ∧ Own ρ j := fun {j} ⟨c, z⟩ => by
      rcases z with z | z
      · rcases wipeR_get z with z | ⟨z1, z2⟩
        · cases z
        · exact ⟨z1, c, .inl z2⟩
      · rcases wipeR_get z with z | ⟨z1, z2⟩
        · cases z
        · exact ⟨z1, c, .inr z2⟩
    obtain ⟨n1, o1⟩ := back w1
    obtain ⟨n2, o2⟩ := back w2
    rw [h i n1] at q1
    rw [h j n2] at q2
    exact S.inj i j p o1 o2 q1 q2
theorem SR.wipeσ (S : SR K fr F σ H ρ) (vs : List Nat) : SR K fr F (L2.wipe σ vs) H (wipeR ρ vs) := S.wipe (wipe_length _ _) fun j hj => wipe_out hj
theorem SR.unwipe {vs : List Nat} (S : SR K fr F (L2.wipe σ vs) H ρ) : SR K fr F σ H (wipeR ρ vs) := S.wipe (wipe_length _ _).symm fun j hj => (wipe_out hj).symm
theorem wipeR_eq {j : Nat} : ∀ {vs : List Nat}, j < ρ.length → (wipeR ρ vs)[j]? = if j ∈ vs then some .no else ρ[j]?
  | [], h => by simp [wipeR]
  | k :: vs, h => by
    show ((wipeR ρ vs).set k .no)[j]? = _
    by_cases hk : k = j
    · subst hk
      rw [List.getElem?_set_self (by rw [wipeR_length]; exact h)]
      simp
    · rw [List.getElem?_set_ne hk, wipeR_eq h]
      simp [Ne.symm hk]
theorem wipeR_idem (ρ : Rho) (vs : List Nat) : wipeR (wipeR ρ vs) vs = wipeR ρ vs := by
  apply List.ext_getElem?
  intro j
  by_cases hj : j < ρ.length
  · rw [wipeR_eq (by rw [wipeR_length]; exact hj), wipeR_eq hj]
    by_cases q : j ∈ vs <;> simp [q]
  · rw [List.getElem?_eq_none (by rw [wipeR_length, wipeR_length]; omega), List.getElem?_eq_none (by rw [wipeR_length]; omega)]
theorem wipe_idem {σ : L2.St} {vs : List Nat} : L2.wipe (L2.wipe σ vs) vs = L2.wipe σ vs := by
  refine wipe_ext (wipe_length _ _) fun j hj => ?_
  exact wipe_out hj
def bdn {α γ : Type} (r : Option (Rg α)) (f : α → Rho → Option (Rg γ)) : Option (Rg γ) := match r with
  | some (.ok a ρ) => f a ρ
  | _ => none
@[simp] theorem bdn_ok {α γ : Type} {a : α} {ρ : Rho} {f : α → Rho → Option (Rg γ)} : bdn (some (.ok a ρ)) f = f a ρ := rfl
def compF (g : MG) (t : MT) (me : ME) (vs : List Nat) : List PyData → List PyData → Rho → Option (Rg (List PyData))
  | [], acc, ρ => some (.ok acc ρ)
  | x :: xs, acc, ρ => match g x ρ with
    | none => none
    | some ρ1 => bd (t ρ1) fun c ρ2 => if c then bd (mFrz me ρ2) fun y ρ3 => compF g t me vs xs (acc ++ [y]) (wipeR ρ3 vs) else compF g t me vs xs acc (wipeR ρ2 vs)
def mLc (mi : MI) (g : MG) (t : MT) (me : ME) (vs : List Nat) : ME := fun ρ => bd (mi ρ) fun xs ρ1 => if xs.length ≤ sizeLine then bdn (compF g t me vs xs [] (wipeR ρ1 vs)) fun ys ρ2 => some (.ok (.o (.l ys)) ρ2) else none
def mYes : MT := fun ρ => some (.ok true ρ)
abbrev Fr.cell (fr : Fr) (p : Addr) (l : List V) : Fr := { fr with Z := upd fr.Z p (.lst l), nt := nt_put fr.nt (fun _ z => nomatch z), nq := nq_put fr.nq (fun _ z => nomatch z) }
/-- a protected cell is written -/
theorem SR.over {f0 : Fr} {p : Addr} {l l' : List V} (S : SR K (f0.cell p l) F σ H ρ) (nZ : f0.Z p = none) (sA : ∀ a ns, f0.A a ns → SqL K f0.Z a (ns.map V.int)) : SR K (f0.cell p l') F σ (upd H p (.lst l')) ρ := by
  have hp : (upd f0.Z p (.lst l)) p = some (.lst l) := upd_same
  have nF : F p = none := S.dj _ _ hp
  have ne : ∀ i q, Own ρ i → σ[i]? = some (some (.ref q)) → q ≠ p := fun i q w z h => by
    subst h
    have t : (upd f0.Z q (.lst l)) q = none := (S.ownAt w z).2.1
    rw [hp] at t; cases t
  have zz : ∀ q, q ≠ p → (upd f0.Z p (.lst l)) q = (upd f0.Z p (.lst l')) q := fun q h => by rw [upd_ne h, upd_ne h]
  refine ⟨S.len, fun b u e => ?_, fun b u e => ?_, fun b u e => ?_, fun a ns h => ?_, fun i s e => ?_, S.inj, S.x.put (S.sZ _ _ hp) (fun _ z => nomatch z) (fun _ z => nomatch z)⟩
  · rw [upd_ne (ne_of_none e nF)]; exact S.sF _ _ e
  · have e' : (upd f0.Z p (.lst l')) b = some u := e
    by_cases hb : b = p
    · subst hb; rw [upd_same] at e' ⊢; exact e'
    · rw [← zz b hb] at e'; rw [upd_ne hb]; exact S.sZ _ _ e'
  · have e' : (upd f0.Z p (.lst l')) b = some u := e
    by_cases hb : b = p
    · subst hb; exact nF
    · rw [← zz b hb] at e'; exact S.dj _ _ e'
  · exact Same.seq (fun b u e => by show upd f0.Z p (.lst l') b = some u; rw [upd_ne (ne_of_none e nZ)]; exact e) (sA a ns h)
  · have z := S.sl i s e
    cases s with
    | no => trivial
    | d x => exact z
    | o c =>
      obtain ⟨q, a, b, d, r⟩ := z
      have hq := ne i q ⟨c, .inl e⟩ a
      refine ⟨q, a, b, ?_, r.at (Same.refl _) fun o z => by rw [upd_ne hq]; exact z⟩
      show (upd f0.Z p (.lst l')) q = none
      rw [← zz q hq]; exact d
    | r c =>
      obtain ⟨q, y, a, b, d, r⟩ := z
      have hq := ne i q ⟨c, .inr e⟩ a
      refine ⟨q, y, a, b, ?_, r.at (Same.refl _) fun o z => by rw [upd_ne hq]; exact z⟩
      show (upd f0.Z p (.lst l')) q = none
      rw [← zz q hq]; exact d
    | scr ns => exact z
theorem SR.sAof (S : SR K fr F σ H ρ) : ∀ a ns, fr.A a ns → SqL K fr.Z a (ns.map V.int) := S.sA
/-- a comprehension's turns -/
theorem lc_of {mi : MI} {g : MG} {ts : List Nat} {t : MT} {me : ME} {vs : List Nat} {Q : VK} (hts : ∀ i ∈ ts, i ∈ vs) (h : tE K w (mLc mi g t me vs) σ H Q) : tLc (tI K w mi) (tG K ts g) (tT K w0 t) (tE K w0 me) vs σ H Q := by
  obtain ⟨fr, F, ρ, S, h⟩ := h
  refine ⟨fr, F, ρ, S, h.bd (rel := relI) fun ds ρ1 F1 H1 J S1 s1 wk h1 => ?_⟩
  by_cases cl : ds.length ≤ sizeLine
  case neg => rw [if_neg cl] at h1; exact h1.elim
  rw [if_pos cl] at h1
  intro D nD
  obtain ⟨SD, nF, nZ, noD⟩ := S1.newO (o := .lst []) nD
  have hD : (upd H1 D (.lst [])) D = some (.lst []) := upd_same
  -- the new list is put by
  have S2 : SR K (fr.cell D []) F1 σ (upd H1 D (.lst [])) ρ1 := by
    refine ⟨SD.len, SD.sF, fun b u e => ?_, fun b u e => ?_, fun a ns h => ?_, fun i s e => ?_, SD.inj, SD.x⟩
    · have e' : (upd fr.Z D (.lst [])) b = some u := e
      by_cases hb : b = D
      · subst hb; rw [upd_same] at e' ⊢; exact e'
      · rw [upd_ne hb] at e'; exact SD.sZ _ _ e'
    · have e' : (upd fr.Z D (.lst [])) b = some u := e
      by_cases hb : b = D
      · subst hb; exact nF
      · rw [upd_ne hb] at e'; exact SD.dj _ _ e'
    · exact Same.seq (fun b u e => by show upd fr.Z D (.lst []) b = some u; rw [upd_ne (ne_of_none e nZ)]; exact e) (SD.sA a ns h)
    · have z := SD.sl i s e
      have zz : ∀ q, q ≠ D → fr.Z q = none → (upd fr.Z D (.lst [])) q = none := fun q h e => by rw [upd_ne h]; exact e
      cases s with
      | no => trivial
      | d x => exact z
      | o c => obtain ⟨q, a, b, d, r⟩ := z; exact ⟨q, a, b, zz q (fun y => noD i ⟨c, .inl e⟩ (by rw [← y]; exact a)) d, r⟩
      | r c => obtain ⟨q, y, a, b, d, r⟩ := z; exact ⟨q, y, a, b, zz q (fun y => noD i ⟨c, .inr e⟩ (by rw [← y]; exact a)) d, r⟩
      | scr ns => exact z
  have leD : ∀ o, fr.Le (fr.cell D o) := fun o => ⟨fun b u e => by show upd fr.Z D (.lst o) b = some u; rw [upd_ne (ne_of_none e nZ)]; exact e, rfl, rfl⟩
  refine ⟨fun i m H2 => i + m = ds.length ∧ ∃ F2 ρ2 acc ys, Same F1 F2 ∧ SR K (fr.cell D acc) F2 (L2.wipe σ vs) H2 ρ2 ∧ RpA F2 acc ys ∧ acc.length ≤ i ∧
      WPg K w EvRep Q fr F2 σ (bdn (compF g t me vs (ds.drop i) ys (wipeR ρ2 vs)) fun ys ρ2 => some (.ok (.o (.l ys)) ρ2)), ⟨ds.length, by omega, F1, wipeR ρ1 vs, [], [], Same.refl _, S2.wipeσ vs, .nil, Nat.le_refl _, ?_⟩, fun i m H2 hW => ?_⟩
  · have w2 : wipeR (wipeR ρ1 vs) vs = wipeR ρ1 vs := wipeR_idem ρ1 vs
    rw [w2]
    exact h1
  · obtain ⟨em, F2, ρ2, acc, ys, sm2, S3, ra, hl, hw⟩ := hW
    have hDH : H2 D = some (.lst acc) := S3.sZ _ _ upd_same
    have wk2 := wk i F2 H2 sm2 S3.sF
    cases m with
    | zero =>
      refine .inl ⟨wk2.2 (by omega), ?_⟩
      rw [List.drop_of_length_le (by omega)] at hw
      have S4 : SR K (fr.cell D acc) F2 σ H2 (wipeR ρ2 vs) := S3.unwipe
      have S5 := S4.shrink (leD _) S1.sA
      refine hw F2 H2 _ S5 (Same.refl _) ⟨D, rfl, S4.dj _ _ upd_same, nZ, fun j o q => ?_, acc, hDH, ra⟩
      have z : (upd fr.Z D (.lst acc)) D = none := (S4.ownAt o q).2.1
      rw [upd_same] at z
      cases z
    | succ m =>
      have hi : i < ds.length := by omega
      have ex : ds[i]? = some ds[i] := List.getElem?_eq_getElem hi
      obtain ⟨go, yl⟩ := wk2.1 _ ex
      refine .inr ⟨go, fun H' => i + 1 + m = ds.length ∧ ∃ F2 ρ2 acc ys, Same F1 F2 ∧ SR K (fr.cell D acc) F2 (L2.wipe σ vs) H' ρ2 ∧ RpA F2 acc ys ∧ acc.length ≤ i + 1 ∧
        WPg K w EvRep Q fr F2 σ (bdn (compF g t me vs (ds.drop (i + 1)) ys (wipeR ρ2 vs)) fun ys ρ2 => some (.ok (.o (.l ys)) ρ2)), fun H' n => ⟨m, by omega, n⟩, fun y H3 hy => ?_⟩
      obtain ⟨F3, gr, rp⟩ := yl y H3 hy
      have S4 : SR K (fr.cell D acc) F3 (L2.wipe σ vs) H3 (wipeR ρ2 vs) := by
        have z := (S3.grow gr).wipeσ vs
        rw [wipe_idem] at z
        exact z
      rw [List.drop_eq_getElem_cons hi] at hw
      have hw2 : WPg K w EvRep Q fr F2 σ (bdn (match g ds[i] (wipeR ρ2 vs) with
        | none => none
        | some ρ1 => bd (t ρ1) fun c ρ2 => if c then bd (mFrz me ρ2) fun y ρ3 => compF g t me vs (ds.drop (i + 1)) (ys ++ [y]) (wipeR ρ3 vs) else compF g t me vs (ds.drop (i + 1)) ys (wipeR ρ2 vs)) fun ys ρ2 => some (.ok (.o (.l ys)) ρ2)) := hw
      cases eg : g ds[i] (wipeR ρ2 vs) with
      | none => rw [eg] at hw2; exact hw2.elim
      | some ρ3 =>
        rw [eg] at hw2
        have hw3 : WPg K w EvRep Q fr F3 σ (bdn (bd (t ρ3) fun c ρ2 => if c then bd (mFrz me ρ2) fun y ρ3 => compF g t me vs (ds.drop (i + 1)) (ys ++ [y]) (wipeR ρ3 vs) else compF g t me vs (ds.drop (i + 1)) ys (wipeR ρ2 vs)) fun ys ρ2 => some (.ok (.o (.l ys)) ρ2)) := hw2.mono gr.1
        refine ⟨_, F3, wipeR ρ2 vs, ds[i], ρ3, S4, rp, eg, fun σ2 S5 hσ => ?_⟩
        have e1 : L2.wipe σ2 vs = L2.wipe σ vs := by rw [hσ vs hts, wipe_idem]
        refine ⟨e1, ⟨_, F3, ρ3, S5, ?_⟩⟩
        have smA : Same F1 F3 := sm2.trans gr.1
        cases et : t ρ3 with
        | none => rw [et] at hw3; exact hw3.elim
        | some r =>
          rw [et] at hw3
          cases r with
          | er x ρ4 => exact hw3.elim
          | ok c ρ4 =>
            intro F4 H4 b S6 sm4 eb
            have eb : b = c := eb
            subst eb
            have back : ∀ {F5 H5 ρ5 acc'}, SR K (fr.cell D acc') F5 σ2 H5 ρ5 → SR K (fr.cell D acc') F5 (L2.wipe σ vs) H5 (wipeR ρ5 vs) := fun {F5 H5 ρ5 acc'} S => by
              have z := S.wipeσ vs
              rw [e1] at z
              exact z
            cases b with
            | false =>
              rw [if_neg Bool.false_ne_true]
              have hw4 : WPg K w EvRep Q fr F3 σ (bdn (compF g t me vs (ds.drop (i + 1)) ys (wipeR ρ4 vs)) fun ys ρ2 => some (.ok (.o (.l ys)) ρ2)) := hw3
              exact ⟨by omega, F4, wipeR ρ4 vs, acc, ys, smA.trans sm4, back S6, RpA.mono (gr.1.trans sm4) _ _ ra, by omega, by rw [wipeR_idem]; exact hw4.mono sm4⟩
            | true =>
              rw [if_pos rfl]
              have hw4 : WPg K w EvRep Q fr F3 σ (bdn (bd (mFrz me ρ4) fun y ρ3 => compF g t me vs (ds.drop (i + 1)) (ys ++ [y]) (wipeR ρ3 vs)) fun ys ρ2 => some (.ok (.o (.l ys)) ρ2)) := hw3
              refine frzM (K := K) (w := w0) ⟨_, F4, ρ4, S6, ?_⟩
              cases ef : mFrz me ρ4 with
              | none => rw [ef] at hw4; exact hw4.elim
              | some r =>
                rw [ef] at hw4
                cases r with
                | er x ρ5 => exact hw4.elim
                | ok y ρ5 =>
                  intro F5 H5 v S7 sm5 rv
                  have hw5 : WPg K w EvRep Q fr F3 σ (bdn (compF g t me vs (ds.drop (i + 1)) (ys ++ [y]) (wipeR ρ5 vs)) fun ys ρ2 => some (.ok (.o (.l ys)) ρ2)) := hw4
                  have hD5 : H5 D = some (.lst acc) := S7.sZ _ _ upd_same
                  refine ⟨acc, hD5, by omega, by omega, F5, wipeR ρ5 vs, acc ++ [v], ys ++ [y], smA.trans (sm4.trans sm5), back (S7.over nZ S1.sA), RpA.app (RpA.mono (gr.1.trans (sm4.trans sm5)) _ _ ra) (.cons rv .nil), ?_, by rw [wipeR_idem]; exact hw5.mono (sm4.trans sm5)⟩
                  rw [List.length_append, List.length_singleton]
                  omega
theorem e_lc {tg iter : Expr} {ifs : List Expr} {scope : Scope} {own : List (Str × Nat)} {mi : MI} {g : MG} {ts : List Nat} {t : MT} {me : ME} (hc : X.calm = true) (hN : X.N.Nodup) (hi : PI X tg iter (tI X.K w mi)) (ok : BlkOk X.N X.env.scope scope own)
    (hg : ∀ (s : Shared) (H : Hp) (C : Addr) (cl : List (Str × Addr)) (fp : List Addr), PG (X.blk s H scope (compEnvC scope cl C X.env) fp) tg (tG X.K ts g)) (ht : ∀ (s : Shared) (H : Hp) (C : Addr) (cl : List (Str × Addr)) (fp : List Addr), PTs (X.blk s H scope (compEnvC scope cl C X.env) fp) ifs (tT X.K w0 t))
    (he : ∀ (s : Shared) (H : Hp) (C : Addr) (cl : List (Str × Addr)) (fp : List Addr), PE (X.blk s H scope (compEnvC scope cl C X.env) fp) e (tE X.K w0 me)) (hts : ∀ i ∈ ts, i ∈ own.map (·.2)) (hs : ∀ x, foldedSetIterable iter X.env x = pure x := by intro _; rfl) :
    PE X (.ListComp e [⟨tg, iter, ifs, 0⟩] scope pos) (tE X.K w (mLc mi g t me (own.map (·.2)))) := wkE (pe_lc hc hN hi ok hg ht he hs) fun _ _ _ h => lc_of hts h
theorem s_setLc {i : Nat} {y : Str} {py : Pos} {tg iter : Expr} {ifs : List Expr} {scope : Scope} {own : List (Str × Nat)} {spos : Pos} {mi : MI} {g : MG} {ts : List Nat} {t : MT} {me : ME} (hc : X.calm = true) (hN : X.N.Nodup) (hy : X.N[i]? = some y) (hyl : X.env.scope.names.lookup y = some .local)
    (hsw : swapsWith (.ListComp e [⟨tg, iter, ifs, 0⟩] scope pos) (some (.Name y py)) spos.line X.env = pure true) (hi : PI X tg iter (tI X.K w mi)) (ok : BlkOk X.N X.env.scope scope own)
    (hg : ∀ (s : Shared) (H : Hp) (C : Addr) (cl : List (Str × Addr)) (fp : List Addr), PG (X.blk s H scope (compEnvC scope cl C X.env) fp) tg (tG X.K ts g)) (ht : ∀ (s : Shared) (H : Hp) (C : Addr) (cl : List (Str × Addr)) (fp : List Addr), PTs (X.blk s H scope (compEnvC scope cl C X.env) fp) ifs (tT X.K w0 t))
    (he : ∀ (s : Shared) (H : Hp) (C : Addr) (cl : List (Str × Addr)) (fp : List Addr), PE (X.blk s H scope (compEnvC scope cl C X.env) fp) e (tE X.K w0 me)) (hts : ∀ i ∈ ts, i ∈ own.map (·.2)) (hs : ∀ x, foldedSetIterable iter X.env x = pure x := by intro _; rfl) :
    PS X (.Assign [.Name y py] (.ListComp e [⟨tg, iter, ifs, 0⟩] scope pos) spos) (tS X.K w (mSet i (mLc mi g t me (own.map (·.2))))) := by
  refine wkS (ps_setLc (i := i) hc hN hy hyl hsw hi ok hg ht he hs) fun D σ H ⟨fr, F, ρ, S, h⟩ => ?_
  refine lc_of (K := X.K) (w := w) (Q := fun x H1 => gName i x σ H1 D.nx) hts ⟨fr, F, ρ, S, h.bd (rel := EvRep) S fun v ρ1 F1 H1 u S1 s1 r1 h1 => ?_⟩
  show D.nx (σ.set i (some u)) H1
  cases e1 : asg i v ρ1 with
  | none => rw [e1] at h1; exact h1.elim
  | some ρ2 => rw [e1] at h1; exact h1 F1 _ H1 (asg_ok S1 r1 e1) (Same.refl _)
theorem ts_nil : PTs X [] (tT X.K w mYes) := ⟨fun pins s σ H Q I h => pts_nil.run pins s σ H Q I (by
  obtain ⟨fr, F, ρ, S, h⟩ := h
  exact h F H true S (Same.refl _) rfl)⟩
theorem ts_one {c : Expr} {t : MT} (h : PT X c (tT X.K w t)) : PTs X [c] (tT X.K w t) := pts_one h
end
end Pv

/-! Defs by their mirrors, and their calls. -/
namespace Pv
open PySem PySem.Spec PyProof.Rows L2
abbrev MF := Rho → Option (Rg Ev)
def keepR (n : Nat) (ρ : Rho) : Rho := (List.range n).map fun i => match ρ[i]? with
  | some (Sl.r c) => Sl.r c
  | _ => Sl.no
theorem keepR_get {n : Nat} {ρ : Rho} {i : Nat} {s : Sl} (h : (keepR n ρ)[i]? = some s) : s = .no ∨ ∃ c, s = .r c ∧ ρ[i]? = some (.r c) := by
  unfold keepR at h
  rw [List.getElem?_map] at h
  cases e : (List.range n)[i]? with
  | none => rw [e] at h; cases h
  | some j =>
    have ej : j = i := by
      obtain ⟨h1, h2⟩ := List.getElem?_eq_some_iff.mp e
      rw [List.getElem_range] at h2
      exact h2.symm
    subst ej
    rw [e] at h
    have h' : (match ρ[j]? with
      | some (Sl.r c) => Sl.r c
      | _ => Sl.no) = s := Option.some.inj h
    cases q : ρ[j]? with
    | none => rw [q] at h'; exact .inl h'.symm
    | some t =>
      rw [q] at h'
      cases t with
      | r c => exact .inr ⟨c, h'.symm, rfl⟩
      | no => exact .inl h'.symm
      | d _ => exact .inl h'.symm
      | o _ => exact .inl h'.symm
      | scr _ => exact .inl h'.symm
theorem keepR_length (n : Nat) (ρ : Rho) : (keepR n ρ).length = n := by simp [keepR]
/-- a def's result by its body's -/
def finF (n : Nat) : Option Fl → Option (Rg Ev)
  | some (.rt (.d x) ρ) => some (.ok (.d x) (keepR n ρ))
  | some (.rt (.o c) ρ) => some (.ok (.o c) (keepR n ρ))
  | some (.nx ρ) => some (.ok (.d .none) (keepR n ρ))
  | some (.er x ρ) => some (.er x (keepR n ρ))
  | _ => none
def mFun (n nN : Nat) (mb : MS) : MF := fun ρ => finF n (mb (ρ ++ List.replicate (nN - n) .no))
/-- .. of a def that raises nothing -/
def noEr : Option (Rg Ev) → Option (Rg Ev)
  | some (.ok v ρ) => some (.ok v ρ)
  | _ => none
def mFun0 (n nN : Nat) (mb : MS) : MF := fun ρ => noEr (mFun n nN mb ρ)
abbrev XRT := Ex → Value → Option Addr → Hp → Prop
def spF (K : PySem.W.Frag) (XR : XRT) (n : Nat) (m : MF) : Sp := fun vs H Q E => vs.length = n ∧ ∃ fr F ρ, (∀ i p, fr.P i = some p → vs[i]? = some (.ref p)) ∧ SR K fr F (vs.map some) H ρ ∧ WPg K ⟨fun c d _ H' => E c d H', XR⟩ EvRep Q fr F (vs.map some) (m ρ)
section
variable {K : PySem.W.Frag} {fr : Fr} {F : Hp} {σ : L2.St} {H : Hp} {ρ : Rho}
theorem SR.keep {vs : List V} {n : Nat} (S : SR K fr F σ H ρ) (hn : vs.length = n) (hP : ∀ i p, fr.P i = some p → vs[i]? = some (.ref p)) : SR K fr F (vs.map some) H (keepR n ρ) := by
  have at' : ∀ {i p}, fr.P i = some p → (vs.map some)[i]? = some (some (V.ref p)) := fun {i p} h => by rw [List.getElem?_map, hP i p h]; rfl
  have back : ∀ {i p}, Own (keepR n ρ) i → (vs.map some)[i]? = some (some (V.ref p)) → Own ρ i ∧ σ[i]? = some (some (.ref p)) := fun {i p} ⟨c, z⟩ q => by
    have e : ∃ c, ρ[i]? = some (.r c) := by
      rcases z with z | z
      · rcases keepR_get z with z | ⟨c', z, _⟩ <;> cases z
      · rcases keepR_get z with z | ⟨c', z, e⟩
        · cases z
        · exact ⟨c', e⟩
    obtain ⟨c, e⟩ := e
    obtain ⟨p', h1, h2, _⟩ := S.at e
    rw [at' h1] at q
    cases q
    exact ⟨⟨c, .inr e⟩, h2⟩
  refine ⟨by rw [keepR_length, List.length_map, hn], S.sF, S.sZ, S.dj, S.sA, fun i s e => ?_, fun i j p w1 w2 q1 q2 => ?_, S.x⟩
  · rcases keepR_get e with rfl | ⟨c, rfl, e2⟩
    · trivial
    · obtain ⟨p, h1, h2, h3⟩ := S.at e2
      exact ⟨p, h1, at' h1, h3⟩
  · obtain ⟨o1, e1⟩ := back w1 q1
    obtain ⟨o2, e2⟩ := back w2 q2
    exact S.inj i j p o1 o2 e1 e2
theorem ev_keep {vs : List V} {n : Nat} {u : V} {c : Oc} (S : SR K fr F σ H ρ) (hP : ∀ i p, fr.P i = some p → vs[i]? = some (.ref p)) (r : EvRep fr F σ H ρ u (.o c)) : EvRep fr F (vs.map some) H (keepR n ρ) u (.o c) := by
  obtain ⟨p, e, nF, nZ, no, rep⟩ := r
  refine ⟨p, e, nF, nZ, fun i ⟨c', z⟩ q => ?_, rep⟩
  have e : ∃ c, ρ[i]? = some (.r c) := by
    rcases z with z | z
    · rcases keepR_get z with z | ⟨c', z, _⟩ <;> cases z
    · rcases keepR_get z with z | ⟨c', z, e⟩
      · cases z
      · exact ⟨c', e⟩
  obtain ⟨c2, e⟩ := e
  obtain ⟨p', h1, h2, _⟩ := S.at e
  rw [List.getElem?_map, hP i p' h1] at q
  cases q
  exact no i ⟨c2, .inr e⟩ h2
theorem SR.begin {vs : List V} {N : List Str} (S : SR K fr F (vs.map some) H ρ) : SR K fr F (L2.start N vs) H (ρ ++ List.replicate (N.length - vs.length) .no) := by
  have hl : ρ.length = vs.length := by rw [S.len, List.length_map]
  have left : ∀ {i s}, (ρ ++ List.replicate (N.length - vs.length) Sl.no)[i]? = some s → s = .no ∨ (i < vs.length ∧ ρ[i]? = some s) := fun {i s} e => by
    by_cases hi : i < ρ.length
    · rw [List.getElem?_append_left hi] at e
      exact .inr ⟨by omega, e⟩
    · rw [List.getElem?_append_right (by omega), List.getElem?_replicate] at e
      split at e
      · cases e; exact .inl rfl
      · cases e
  have at' : ∀ {i : Nat}, i < vs.length → (L2.start N vs)[i]? = (vs.map some)[i]? := fun {i} hi => by
    unfold L2.start
    rw [List.getElem?_append_left (by simpa using hi)]
  have own : ∀ {i}, Own (ρ ++ List.replicate (N.length - vs.length) Sl.no) i → i < vs.length ∧ Own ρ i := fun {i} ⟨c, z⟩ => by
    rcases z with z | z
    · rcases left z with z | ⟨h, z⟩
      · cases z
      · exact ⟨h, c, .inl z⟩
    · rcases left z with z | ⟨h, z⟩
      · cases z
      · exact ⟨h, c, .inr z⟩
  refine ⟨by unfold L2.start; simp [hl], S.sF, S.sZ, S.dj, S.sA, fun i s e => ?_, fun i j p w1 w2 q1 q2 => ?_, S.x⟩
  · rcases left e with rfl | ⟨hi, e⟩
    · trivial
    · have z := S.sl i s e
      have q := at' hi
      cases s with
      | no => trivial
      | d x => obtain ⟨v, a, b⟩ := z; exact ⟨v, by rw [q]; exact a, b⟩
      | o c => obtain ⟨v, a, b⟩ := z; exact ⟨v, by rw [q]; exact a, b⟩
      | r c => obtain ⟨v, y, a, b⟩ := z; exact ⟨v, y, by rw [q]; exact a, b⟩
      | scr c => obtain ⟨v, a, b⟩ := z; exact ⟨v, by rw [q]; exact a, b⟩
  · obtain ⟨h1, o1⟩ := own w1
    obtain ⟨h2, o2⟩ := own w2
    rw [at' h1] at q1
    rw [at' h2] at q2
    exact S.inj i j p o1 o2 q1 q2
/-- from the promise to the body's reading -/
theorem body_of {XR : XRT} {E : XK} {n : Nat} {N : List Str} {mb : MS} {vs : List V} {Q : VK} (h : spF K XR n (mFun n N.length mb) vs H Q E) : tS K ⟨fun c d _ H' => E c d H', XR⟩ mb { nx := fun _ H' => Q .non H', rt := Q } (L2.start N vs) H := by
  obtain ⟨hn, fr, F, ρ, hP, S, h⟩ := h
  refine ⟨fr, F, ρ ++ List.replicate (N.length - vs.length) .no, S.begin, ?_⟩
  subst hn
  have h' : WPg K ⟨fun c d _ H' => E c d H', XR⟩ EvRep Q fr F (vs.map some) (finF vs.length (mb (ρ ++ List.replicate (N.length - vs.length) .no))) := h
  match e : mb (ρ ++ List.replicate (N.length - vs.length) .no) with
  | none => rw [e] at h'; exact h'.elim
  | some (.nx ρ') => rw [e] at h' ⊢; exact fun F' σ' H' S' sm => h' F' H' .non (S'.keep rfl hP) sm .non
  | some (.bk ρ') => rw [e] at h'; exact h'.elim
  | some (.ct ρ') => rw [e] at h'; exact h'.elim
  | some (.rt (.d x) ρ') => rw [e] at h' ⊢; exact fun F' σ' H' u S' sm r => h' F' H' u (S'.keep rfl hP) sm r
  | some (.rt (.o c) ρ') => rw [e] at h' ⊢; exact fun F' σ' H' u S' sm r => h' F' H' u (S'.keep rfl hP) sm (ev_keep S' hP r)
  | some (.rt (.b i) ρ') => rw [e] at h'; exact h'.elim
  | some (.er x ρ') => rw [e] at h' ⊢; exact fun F' σ' H' c d S' sm r => h' F' H' c d (S'.keep rfl hP) sm r
theorem body0_of {XR : XRT} {E : XK} {n : Nat} {N : List Str} {mb : MS} {vs : List V} {Q : VK} (h : spF K XR n (mFun0 n N.length mb) vs H Q E) : tS K w0 mb { nx := fun _ H' => Q .non H', rt := Q } (L2.start N vs) H := by
  obtain ⟨hn, fr, F, ρ, hP, S, h⟩ := h
  refine ⟨fr, F, ρ ++ List.replicate (N.length - vs.length) .no, S.begin, ?_⟩
  subst hn
  have h' : WPg K ⟨fun c d _ H' => E c d H', XR⟩ EvRep Q fr F (vs.map some) (noEr (finF vs.length (mb (ρ ++ List.replicate (N.length - vs.length) .no)))) := h
  match e : mb (ρ ++ List.replicate (N.length - vs.length) .no) with
  | none => rw [e] at h'; exact h'.elim
  | some (.nx ρ') => rw [e] at h' ⊢; exact fun F' σ' H' S' sm => h' F' H' .non (S'.keep rfl hP) sm .non
  | some (.bk ρ') => rw [e] at h'; exact h'.elim
  | some (.ct ρ') => rw [e] at h'; exact h'.elim
  | some (.rt (.d x) ρ') => rw [e] at h' ⊢; exact fun F' σ' H' u S' sm r => h' F' H' u (S'.keep rfl hP) sm r
  | some (.rt (.o c) ρ') => rw [e] at h' ⊢; exact fun F' σ' H' u S' sm r => h' F' H' u (S'.keep rfl hP) sm (ev_keep S' hP r)
  | some (.rt (.b i) ρ') => rw [e] at h'; exact h'.elim
  | some (.er x ρ') => rw [e] at h'; exact h'.elim
end
section
variable {P : Program} {w : World} {K : PySem.W.Frag} {mg : Str → Option Value} {base : Heap}
theorem fn_ok0 {x qual : Str} {st : Stmt} {f : Addr} {fd : FuncData} {N ps : List Str} {k : Nat} {mb : MS} (F : Fun K x qual st f fd) (S : FnScope N ps (defScope st)) (XR : XRT)
    (hb : ∀ (cdv : Value) (A : Around) (outer : List Env) (s : Shared) (H : Hp) (E : XK), Room k (A.deeper (envOfC qual (defScope st) s.heap.objs.size f cdv)) →
      PSs (cxOf CX0 P w K mg base N qual (defScope st) f cdv A outer s H E).nox (defBody st) (tS K w0 mb)) : FnOk P w K mg base CX0 (k + 1) f fd ps (spF K XR ps.length (mFun0 ps.length N.length mb)) :=
  F.ok S (fun _ _ _ _ h => h.1) fun cdv A outer s H vs Q E hr h => ⟨_, hb cdv A outer s H E hr, body0_of h⟩
theorem fn_okX {x qual : Str} {st : Stmt} {f : Addr} {fd : FuncData} {N ps : List Str} {k : Nat} {mb : MS} (F : Fun K x qual st f fd) (S : FnScope N ps (defScope st)) (XR : XRT)
    (hb : ∀ (cdv : Value) (A : Around) (outer : List Env) (s : Shared) (H : Hp) (E : XK), Room k (A.deeper (envOfC qual (defScope st) s.heap.objs.size f cdv)) →
      PSs (cxOf (L2.CX P w) P w K mg base N qual (defScope st) f cdv A outer s H E) (defBody st) (tS K ⟨fun c d _ H' => E c d H', XR⟩ mb)) : FnOk P w K mg base (L2.CX P w) (k + 1) f fd ps (spF K XR ps.length (mFun ps.length N.length mb)) :=
  F.okX S (fun _ _ _ _ h => h.1) fun cdv A outer s H vs Q E hr h => ⟨_, hb cdv A outer s H E hr, body_of h⟩
end

/-! ### calls -/
inductive Av where
  | d (x : PyData) | b (i : Nat)
def AvRep (F : Hp) (σ : L2.St) (u : V) : Av → Prop
  | .d x => Rp F u x
  | .b i => σ[i]? = some (some u)
abbrev relAv : RelT Av V := fun _ F σ _ _ u a => AvRep F σ u a
abbrev relAvs : RelT (List Av) (List V) := fun _ F σ _ _ us as => Paired (AvRep F σ) us as
theorem AvRep.mono {F F' : Hp} {σ : L2.St} (s : Same F F') {u : V} {a : Av} (h : AvRep F σ u a) : AvRep F' σ u a := by
  cases a with
  | d x => exact Rp.mono s _ _ h
  | b i => exact h
abbrev MAv := Rho → Option (Rg (List Av))
def mAv (br : Bool) (me : ME) : Rho → Option (Rg Av) := fun ρ => bd (me ρ) fun v ρ1 => match br, v with
  | true, .b i => some (.ok (.b i) ρ1)
  | _, v => (frz v ρ1).map fun p => .ok (.d p.1) p.2
def mANil : MAv := fun ρ => some (.ok [] ρ)
def mACons (br : Bool) (me : ME) (ms : MAv) : MAv := fun ρ => bd (mAv br me ρ) fun x ρ2 => bd (ms ρ2) fun xs ρ3 => some (.ok (x :: xs) ρ3)
def argSl1 (ρ : Rho) : Av → Option Sl
  | .d x => some (.d x)
  | .b i => match ρ[i]? with
    | some (.d x) => some (.d x)
    | some (.scr ns) => some (.scr ns)
    | _ => none
def argSl0 (ρ : Rho) : Av → Option Sl
  | .d x => some (.d x)
  | .b i => match ρ[i]? with
    | some (.o c) => some (.r c)
    | some (.r c) => some (.r c)
    | some (.d x) => some (.d x)
    | some (.scr ns) => some (.scr ns)
    | _ => none
def argTl (ρ : Rho) : List Av → Option (List Sl)
  | [] => some []
  | a :: as => match argSl1 ρ a, argTl ρ as with
    | some s, some r => some (s :: r)
    | _, _ => none
def argSls (ρ : Rho) : List Av → Option (List Sl)
  | [] => some []
  | a :: as => match argSl0 ρ a, argTl ρ as with
    | some s, some r => some (s :: r)
    | _, _ => none
def backR (ρ : Rho) (as : List Av) (ρc : Rho) : Rho := match as with
  | .b i :: _ => match ρ[i]? with
    | some (.o _) => ρ.set i (match ρc[0]? with
      | some (Sl.r c) => Sl.o c
      | _ => Sl.no)
    | some (.r _) => ρ.set i (match ρc[0]? with
      | some (Sl.r c) => Sl.r c
      | _ => Sl.no)
    | _ => ρ
  | _ => ρ
def mCall (m : MF) (ms : MAv) : ME := fun ρ => bd (ms ρ) fun as ρ1 => match argSls ρ1 as with
  | none => none
  | some ρc => match m ρc with
    | some (.ok (.d x) ρc') => some (.ok (.d x) (backR ρ1 as ρc'))
    | some (.ok (.o c) ρc') => some (.ok (.o c) (backR ρ1 as ρc'))
    | some (.er x ρc') => some (.er x (backR ρ1 as ρc'))
    | _ => none
section
variable {X : Cx} {e a b : Expr} {pos : Pos} {w : WC} {K : PySem.W.Frag} {fr : Fr} {F : Hp} {σ : L2.St} {H : Hp} {ρ : Rho}
theorem av_of {br : Bool} {me : ME} {Q : VK} (h : tM K w relAv (mAv br me) σ H Q) : tE K w me σ H Q := by
  obtain ⟨fr, F, ρ, S, h⟩ := h
  refine ⟨fr, F, ρ, S, h.bd fun v ρ1 F1 H1 u S1 s1 r1 h1 => ?_⟩
  have fz : ∀ v, EvRep fr F1 σ H1 ρ1 u v → WPg K w relAv Q fr F1 σ ((frz v ρ1).map fun p => .ok (.d p.1) p.2) → Q u H1 := fun v r1 h1 => by
    cases e1 : frz v ρ1 with
    | none => rw [e1] at h1; exact h1.elim
    | some p =>
      obtain ⟨x, ρ2⟩ := p
      rw [e1] at h1
      obtain ⟨F2, sm, S2, rp⟩ := frz_ok S1 r1 e1
      exact h1 F2 H1 u S2 sm rp
  match br, v, r1, h1 with
  | true, .b i, r1, h1 => exact h1 F1 H1 u S1 (Same.refl _) r1
  | true, .d x, r1, h1 => exact fz _ r1 h1
  | true, .o x, r1, h1 => exact fz _ r1 h1
  | false, .b i, r1, h1 => exact fz _ r1 h1
  | false, .d x, r1, h1 => exact fz _ r1 h1
  | false, .o x, r1, h1 => exact fz _ r1 h1
theorem av_nil : PA X [] (tM X.K w relAvs mANil) := wkA pa_nil fun σ H Q h => by
  obtain ⟨fr, F, ρ, S, h⟩ := h
  exact h F H [] S (Same.refl _) .nil
theorem av_cons {br : Bool} {es : List Expr} {me : ME} {ms : MAv} (ha : PE X e (tE X.K w me)) (hr : PA X es (tM X.K w relAvs ms)) (hs : starEach (e :: es) X.env = (false, eval e X.env) :: starEach es X.env := by rfl) : PA X (e :: es) (tM X.K w relAvs (mACons br me ms)) := by
  refine wkA (pa_cons ha hr hs) fun σ H Q h => ?_
  refine av_of (br := br) ?_
  refine bdM (rel := relAv) h fun fr F ρ x H1 u S r h1 => ?_
  refine ⟨fr, F, ρ, S, h1.bd fun xs ρ2 F2 H2 us S2 s2 r2 h2 => ?_⟩
  exact h2 F2 H2 _ S2 (Same.refl _) (.cons (AvRep.mono s2 r) r2)
theorem argTl_get {as : List Av} : ∀ {ss : List Sl}, argTl ρ as = some ss → ss.length = as.length ∧ ∀ (j : Nat) s, ss[j]? = some s → ∃ a, as[j]? = some a ∧ argSl1 ρ a = some s := by
  induction as with
  | nil => intro ss h; cases h; exact ⟨rfl, fun j s e => by simp at e⟩
  | cons a as ih =>
    intro ss h
    have h' : (match argSl1 ρ a, argTl ρ as with
      | some s, some r => some (s :: r)
      | _, _ => none) = some ss := h
    cases e1 : argSl1 ρ a with
    | none => rw [e1] at h'; cases h'
    | some s =>
      cases e2 : argTl ρ as with
      | none => rw [e1, e2] at h'; cases h'
      | some r =>
        rw [e1, e2] at h'
        cases h'
        obtain ⟨i1, i2⟩ := ih e2
        refine ⟨by simp [i1], fun j t e => ?_⟩
        cases j with
        | zero => simp at e; subst e; exact ⟨a, rfl, e1⟩
        | succ j => exact i2 j t (by simpa using e)
theorem argSls_get {as : List Av} {ss : List Sl} (h : argSls ρ as = some ss) : ss.length = as.length ∧ ∀ (j : Nat) s, ss[j]? = some s → ∃ a, as[j]? = some a ∧ ((j = 0 ∧ argSl0 ρ a = some s) ∨ (j ≠ 0 ∧ argSl1 ρ a = some s)) := by
  cases as with
  | nil => cases h; exact ⟨rfl, fun j s e => by simp at e⟩
  | cons a as =>
    have h' : (match argSl0 ρ a, argTl ρ as with
      | some s, some r => some (s :: r)
      | _, _ => none) = some ss := h
    cases e1 : argSl0 ρ a with
    | none => rw [e1] at h'; cases h'
    | some s =>
      cases e2 : argTl ρ as with
      | none => rw [e1, e2] at h'; cases h'
      | some r =>
        rw [e1, e2] at h'
        cases h'
        obtain ⟨i1, i2⟩ := argTl_get e2
        refine ⟨by simp [i1], fun j t e => ?_⟩
        cases j with
        | zero => simp at e; subst e; exact ⟨a, rfl, .inl ⟨rfl, e1⟩⟩
        | succ j =>
          obtain ⟨a', h1, h2⟩ := i2 j t (by simpa using e)
          exact ⟨a', h1, .inr ⟨by simp, h2⟩⟩
theorem paired_get {α β : Type} {R : α → β → Prop} : ∀ {l₁ : List α} {l₂ : List β} {j : Nat} {y : β}, Paired R l₁ l₂ → l₂[j]? = some y → ∃ x, l₁[j]? = some x ∧ R x y
  | _, _, _, _, .nil, e => by simp at e
  | _, _, 0, _, .cons r _, e => by simp at e; subst e; exact ⟨_, rfl, r⟩
  | _, _, j + 1, _, .cons _ t, e => by
    obtain ⟨x, h1, h2⟩ := paired_get (j := j) t (by simpa using e)
    exact ⟨x, by simpa using h1, h2⟩
/-- the address handed on -/
def Passed (ρ : Rho) (σ : L2.St) (as : List Av) (p : Addr) : Prop := ∃ i, as[0]? = some (.b i) ∧ Own ρ i ∧ σ[i]? = some (some (.ref p))
theorem Passed.uniq {as : List Av} {p q : Addr} (h : Passed ρ σ as p) (h' : Passed ρ σ as q) : p = q := by
  obtain ⟨i, a, _, b⟩ := h
  obtain ⟨j, a', _, b'⟩ := h'
  rw [a] at a'; cases a'
  rw [b] at b'; cases b'
  rfl
open Classical in
noncomputable def calleeZ (F H : Hp) (ρ : Rho) (σ : L2.St) (as : List Av) : Hp := fun b => if (F b = none ∧ ¬ Passed ρ σ as b) ∧ (∀ vs, H b ≠ some (.tup vs)) ∧ ∀ ps, H b ≠ some (.tbl ps) then H b else none
theorem calleeZ_some {F H : Hp} {as : List Av} {b : Addr} {o : HO} : calleeZ F H ρ σ as b = some o ↔ ((F b = none ∧ ¬ Passed ρ σ as b) ∧ H b = some o) ∧ (∀ vs, o ≠ .tup vs) ∧ ∀ ps, o ≠ .tbl ps := by
  unfold calleeZ
  by_cases c : (F b = none ∧ ¬ Passed ρ σ as b) ∧ (∀ vs, H b ≠ some (.tup vs)) ∧ ∀ ps, H b ≠ some (.tbl ps)
  · rw [if_pos c]; exact ⟨fun h => ⟨⟨c.1, h⟩, (fun vs z => c.2.1 vs (by rw [h, z])), (fun ps z => c.2.2 ps (by rw [h, z]))⟩, fun h => h.1.2⟩
  · rw [if_neg c]; exact ⟨fun h => (nomatch h), fun h => absurd ⟨h.1.1, (fun vs z => h.2.1 vs (Option.some.inj (h.1.2.symm.trans z))), (fun ps z => h.2.2 ps (Option.some.inj (h.1.2.symm.trans z)))⟩ c⟩
open Classical in
noncomputable def calleeP (ρ : Rho) (σ : L2.St) (as : List Av) : Nat → Option Addr := fun i => if h : i = 0 ∧ ∃ p, Passed ρ σ as p then some (choose h.2) else none
theorem calleeP_some {as : List Av} {i : Nat} {p : Addr} : calleeP ρ σ as i = some p ↔ i = 0 ∧ Passed ρ σ as p := by
  unfold calleeP
  by_cases h : i = 0 ∧ ∃ p, Passed ρ σ as p
  · rw [dif_pos h]
    have z := Classical.choose_spec h.2
    exact ⟨fun e => by cases e; exact ⟨h.1, z⟩, fun e => by rw [e.2.uniq z]⟩
  · rw [dif_neg h]; exact ⟨fun e => (nomatch e), fun e => absurd ⟨e.1, _, e.2⟩ h⟩
noncomputable def calleeFr (fr : Fr) (F H : Hp) (ρ : Rho) (σ : L2.St) (as : List Av) : Fr := ⟨calleeZ F H ρ σ as, calleeP ρ σ as, fr.A, fun _ vs e => (calleeZ_some.mp e).2.1 vs rfl, fun _ ps e => (calleeZ_some.mp e).2.2 ps rfl⟩
theorem SR.zle (S : SR K fr F σ H ρ) (as : List Av) : Same fr.Z (calleeZ F H ρ σ as) := fun b o e => by
  refine calleeZ_some.mpr ⟨⟨⟨S.dj _ _ e, fun ⟨i, _, w, q⟩ => ?_⟩, S.sZ _ _ e⟩, (fun vs z => fr.nt _ vs (by rw [e, z])), (fun ps z => fr.nq _ ps (by rw [e, z]))⟩
  have z := (S.ownAt w q).2.1
  rw [e] at z
  cases z
/-- into the callee -/
theorem SR.enter (S : SR K fr F σ H ρ) {as : List Av} {vs : List V} {ss : List Sl} (r : Paired (AvRep F σ) vs as) (h : argSls ρ as = some ss) : SR K (calleeFr fr F H ρ σ as) F (vs.map some) H ss := by
  obtain ⟨hl, hg⟩ := argSls_get h
  have hv : vs.length = as.length := Paired.length r
  have own0 : ∀ {j}, Own ss j → j = 0 := fun {j} ⟨c, z⟩ => by
    by_cases hj : j = 0
    · exact hj
    · exfalso
      have : ∃ s, ss[j]? = some s ∧ (s = .o c ∨ s = .r c) := by rcases z with z | z <;> exact ⟨_, z, by simp⟩
      obtain ⟨s, z, hs⟩ := this
      obtain ⟨a, _, z2⟩ := hg j s z
      rcases z2 with ⟨z2, _⟩ | ⟨_, z2⟩
      · exact hj z2
      · cases a with
        | d x => cases z2; rcases hs with hs | hs <;> cases hs
        | b i =>
          have z3 : (match ρ[i]? with
            | some (.d x) => some (Sl.d x)
            | some (.scr ns) => some (.scr ns)
            | _ => none) = some s := z2
          cases e : ρ[i]? with
          | none => rw [e] at z3; cases z3
          | some t =>
            rw [e] at z3
            cases t <;> first | (cases z3; rcases hs with hs | hs <;> cases hs) | cases z3
  refine ⟨by rw [List.length_map, hv, hl], S.sF, fun b o e => (calleeZ_some.mp e).1.2, fun b o e => (calleeZ_some.mp e).1.1.1, fun a ns q => (S.zle as).seq (S.sA a ns q), fun j s e => ?_, fun i j p w1 w2 _ _ => by rw [own0 w1, own0 w2], S.x⟩
  obtain ⟨a, ea, z⟩ := hg j s e
  obtain ⟨v, ev, rv⟩ := paired_get r ea
  have sv : (vs.map some)[j]? = some (some v) := by rw [List.getElem?_map, ev]; rfl
  cases a with
  | d x =>
    have es : s = .d x := by rcases z with ⟨_, z⟩ | ⟨_, z⟩ <;> exact (Option.some.inj z).symm
    subst es
    exact ⟨v, sv, rv⟩
  | b i =>
    have rv' : σ[i]? = some (some v) := rv
    cases e2 : ρ[i]? with
    | none =>
      rcases z with ⟨_, z⟩ | ⟨_, z⟩
      · have z' : (match ρ[i]? with
          | some (.o c) => some (Sl.r c)
          | some (.r c) => some (.r c)
          | some (.d x) => some (.d x)
          | some (.scr ns) => some (.scr ns)
          | _ => none) = some s := z
        rw [e2] at z'; cases z'
      · have z' : (match ρ[i]? with
          | some (.d x) => some (Sl.d x)
          | some (.scr ns) => some (.scr ns)
          | _ => none) = some s := z
        rw [e2] at z'; cases z'
    | some t =>
      have fin : (j = 0 ∧ (match t with
          | .o c => some (Sl.r c)
          | .r c => some (.r c)
          | .d x => some (.d x)
          | .scr ns => some (.scr ns)
          | _ => none) = some s) ∨ (j ≠ 0 ∧ (match t with
          | .d x => some (Sl.d x)
          | .scr ns => some (.scr ns)
          | _ => none) = some s) := by
        rcases z with ⟨hj, z⟩ | ⟨hj, z⟩
        · have z' : (match ρ[i]? with
            | some (.o c) => some (Sl.r c)
            | some (.r c) => some (.r c)
            | some (.d x) => some (.d x)
            | some (.scr ns) => some (.scr ns)
            | _ => none) = some s := z
          rw [e2] at z'; refine .inl ⟨hj, ?_⟩; cases t <;> exact z'
        · have z' : (match ρ[i]? with
            | some (.d x) => some (Sl.d x)
            | some (.scr ns) => some (.scr ns)
            | _ => none) = some s := z
          rw [e2] at z'; refine .inr ⟨hj, ?_⟩; cases t <;> exact z'
      cases t with
      | no => rcases fin with ⟨_, z⟩ | ⟨_, z⟩ <;> cases z
      | d x =>
        have es : s = .d x := by rcases fin with ⟨_, z⟩ | ⟨_, z⟩ <;> exact (Option.some.inj z).symm
        subst es
        obtain ⟨v', a', b'⟩ := S.at e2
        rw [rv'] at a'; cases a'
        exact ⟨v, sv, b'⟩
      | scr ns =>
        have es : s = .scr ns := by rcases fin with ⟨_, z⟩ | ⟨_, z⟩ <;> exact (Option.some.inj z).symm
        subst es
        obtain ⟨v', a', b'⟩ := S.at e2
        rw [rv'] at a'; cases a'
        exact ⟨v', sv, b'⟩
      | o c =>
        rcases fin with ⟨hj, z⟩ | ⟨_, z⟩
        · cases z
          subst hj
          obtain ⟨p, a', nF, nZ, rep⟩ := S.at e2
          rw [rv'] at a'; cases a'
          have pa : Passed ρ σ as p := ⟨i, ea, ⟨c, .inl e2⟩, rv'⟩
          exact ⟨p, calleeP_some.mpr ⟨rfl, pa⟩, sv, nF, by cases q : calleeZ F H ρ σ as p with
            | none => exact q
            | some o => exact absurd pa (calleeZ_some.mp q).1.1.2, rep⟩
        · cases z
      | r c =>
        rcases fin with ⟨hj, z⟩ | ⟨_, z⟩
        · cases z
          subst hj
          obtain ⟨p, hp, a', nF, nZ, rep⟩ := S.at e2
          rw [rv'] at a'; cases a'
          have pa : Passed ρ σ as p := ⟨i, ea, ⟨c, .inr e2⟩, rv'⟩
          exact ⟨p, calleeP_some.mpr ⟨rfl, pa⟩, sv, nF, by cases q : calleeZ F H ρ σ as p with
            | none => exact q
            | some o => exact absurd pa (calleeZ_some.mp q).1.1.2, rep⟩
        · cases z
theorem noPass {i : Nat} {rest : List Av} (h1 : ∀ c, ρ[i]? ≠ some (.o c)) (h2 : ∀ c, ρ[i]? ≠ some (.r c)) (p : Addr) : ¬ Passed ρ σ (.b i :: rest) p := fun ⟨j, a, ⟨c, w⟩, _⟩ => by
  have z : Av.b i = Av.b j := Option.some.inj a
  cases z
  rcases w with w | w
  · exact h1 c w
  · exact h2 c w
/-- back from the callee -/
theorem SR.back (S : SR K fr F σ H ρ) {as : List Av} {vs : List V} {F' H' : Hp} {ρc : Rho} (r : Paired (AvRep F σ) vs as) (sm : Same F F') (S' : SR K (calleeFr fr F H ρ σ as) F' (vs.map some) H' ρc) : SR K fr F' σ H' (backR ρ as ρc) ∧
    ∀ u c, EvRep (calleeFr fr F H ρ σ as) F' (vs.map some) H' ρc u (.o c) → EvRep fr F' σ H' (backR ρ as ρc) u (.o c) := by
  have zk : ∀ b o, calleeZ F H ρ σ as b = some o → H' b = some o ∧ F' b = none := fun b o e => ⟨S'.sZ _ _ e, S'.dj _ _ e⟩
  -- what the caller knows but is not handed on
  have oth : ∀ i p, Own ρ i → σ[i]? = some (some (.ref p)) → ¬ Passed ρ σ as p → F' p = none ∧ ∀ o, H p = some o → H' p = some o := fun i p w q np => by
    obtain ⟨nF, nZ, ho, e⟩ := S.ownAt w q
    have z := calleeZ_some.mpr ⟨⟨⟨nF, np⟩, e⟩, (fun vs y => S.ownNT w q vs (by rw [e, y])), (fun ps y => S.ownNQ w q ps (by rw [e, y]))⟩
    refine ⟨(zk _ _ z).2, fun o h => ?_⟩
    rw [e] at h; cases h
    exact (zk _ _ z).1
  have keepSl : ∀ i s, ρ[i]? = some s → (∀ p, Own ρ i → σ[i]? = some (some (.ref p)) → ¬ Passed ρ σ as p) → SlOk fr F' σ H' i s := fun i s e np => by
    have z := S.sl i s e
    cases s with
    | no => trivial
    | d x => obtain ⟨v, a, b⟩ := z; exact ⟨v, a, Rp.mono sm _ _ b⟩
    | scr ns => exact z
    | o c =>
      obtain ⟨p, a, nF, nZ, rep⟩ := z
      obtain ⟨h1, h2⟩ := oth i p ⟨c, .inl e⟩ a (np p ⟨c, .inl e⟩ a)
      exact ⟨p, a, h1, nZ, rep.at sm h2⟩
    | r c =>
      obtain ⟨p, y, a, nF, nZ, rep⟩ := z
      obtain ⟨h1, h2⟩ := oth i p ⟨c, .inr e⟩ a (np p ⟨c, .inr e⟩ a)
      exact ⟨p, y, a, h1, nZ, rep.at sm h2⟩
  have hd : ∀ b o, fr.Z b = some o → F' b = none := fun b o e => S'.dj _ _ (S.zle as _ _ e)
  have hZ : Same fr.Z H' := fun b o e => S'.sZ _ _ (S.zle as _ _ e)
  -- the slots behind
  have main : ∀ ρ', (∀ i s, ρ'[i]? = some s → SlOk fr F' σ H' i s) → (∀ i, Own ρ' i → Own ρ i) → ρ'.length = ρ.length → SR K fr F' σ H' ρ' := fun ρ' h1 h2 h3 =>
    ⟨h3.trans S.len, S'.sF, hZ, hd, S.sA, h1, fun i j p w1 w2 q1 q2 => S.inj i j p (h2 i w1) (h2 j w2) q1 q2, S'.x⟩
  -- a new cell of the callee's
  have ev : ∀ ρ', (∀ i, Own ρ' i → Own ρ i) → (∀ p i, Own ρ' i → σ[i]? = some (some (.ref p)) → Passed ρ σ as p → ∃ c, ρc[0]? = some (.r c)) → ∀ u c, EvRep (calleeFr fr F H ρ σ as) F' (vs.map some) H' ρc u (.o c) → EvRep fr F' σ H' ρ' u (.o c) := fun ρ' h1 h2 u c q => by
    obtain ⟨p, e, nF, nZ, no, rep⟩ := q
    refine ⟨p, e, nF, (S.zle as).free nZ, fun i w q => ?_, rep⟩
    by_cases pa : Passed ρ σ as p
    · obtain ⟨c', e'⟩ := h2 p i w q pa
      refine no 0 ⟨c', .inr e'⟩ ?_
      obtain ⟨j, a1, a2, a3⟩ := pa
      obtain ⟨v, hv, rv⟩ := paired_get r a1
      have rv' : σ[j]? = some (some v) := rv
      rw [a3] at rv'; cases rv'
      rw [List.getElem?_map, hv]; rfl
    · obtain ⟨nF0, _, ho, e'⟩ := S.ownAt (h1 i w) q
      have z := calleeZ_some.mpr ⟨⟨⟨nF0, pa⟩, e'⟩, (fun vs y => S.ownNT (h1 i w) q vs (by rw [e', y])), (fun ps y => S.ownNQ (h1 i w) q ps (by rw [e', y]))⟩
      have z2 : calleeZ F H ρ σ as p = none := nZ
      rw [z] at z2; cases z2
  have same : (∀ p, ¬ Passed ρ σ as p) → SR K fr F' σ H' ρ ∧ ∀ u c, EvRep (calleeFr fr F H ρ σ as) F' (vs.map some) H' ρc u (.o c) → EvRep fr F' σ H' ρ u (.o c) := fun np =>
    ⟨main ρ (fun i s e => keepSl i s e fun p _ _ => np p) (fun _ h => h) rfl, ev ρ (fun _ h => h) fun p _ _ _ h => absurd h (np p)⟩
  match as, r, S', keepSl, ev, same with
  | [], r, S', keepSl, ev, same => exact same fun p ⟨i, a, _⟩ => by simp at a
  | .d x :: rest, r, S', keepSl, ev, same => exact same fun p ⟨i, a, _⟩ => by simp at a
  | .b i :: rest, r, S', keepSl, ev, same =>
    have only : ∀ {p j}, Own ρ j → σ[j]? = some (some (.ref p)) → Passed ρ σ (.b i :: rest) p → j = i := fun {p j} w q ⟨k, a, w2, q2⟩ => by
      have : k = i := by simp at a; exact a.symm
      subst this
      exact S.inj j k p w w2 q q2
    cases e : ρ[i]? with
    | none =>
      have eb : backR ρ (.b i :: rest) ρc = ρ := by show (match ρ[i]? with
        | some (.o _) => _
        | some (.r _) => _
        | _ => ρ) = ρ
                                                    rw [e]
      rw [eb]
      exact same (noPass (fun c z => by rw [e] at z; cases z) (fun c z => by rw [e] at z; cases z))
    | some s =>
      have plain : (∀ c, s ≠ .o c) → (∀ c, s ≠ .r c) → backR ρ (.b i :: rest) ρc = ρ := fun h1 h2 => by
        show (match ρ[i]? with
        | some (.o _) => _
        | some (.r _) => _
        | _ => ρ) = ρ
        rw [e]
        cases s with
        | o c => exact absurd rfl (h1 c)
        | r c => exact absurd rfl (h2 c)
        | no => rfl
        | d _ => rfl
        | scr _ => rfl
      have hi := get_of_lt e
      obtain ⟨v, hv, rv⟩ := paired_get (j := 0) r rfl
      have rv' : σ[i]? = some (some v) := rv
      have sv : (vs.map some)[0]? = some (some v) := by rw [List.getElem?_map, hv]; rfl
      -- what the callee left of it
      have left : ∀ c, ρc[0]? = some (.r c) → Own ρ i → ∃ p, v = .ref p ∧ F' p = none ∧ OcRep F' H' p c := fun c q w => by
        obtain ⟨p, h1, h2, h3, h4, h5⟩ := S'.at q
        rw [sv] at h2; cases h2
        exact ⟨p, rfl, h3, h5⟩
      have other : ∀ {s' : Sl}, (∀ j t, j ≠ i → (ρ.set i s')[j]? = some t → SlOk fr F' σ H' j t) := fun {s'} j t hj q => by
        rw [List.getElem?_set_ne (Ne.symm hj)] at q
        exact keepSl j t q fun p w a pa => hj (only w a pa)
      cases s with
      | no =>
        rw [plain (fun _ z => nomatch z) (fun _ z => nomatch z)]
        exact same (noPass (fun c z => by rw [e] at z; cases z) (fun c z => by rw [e] at z; cases z))
      | d x =>
        rw [plain (fun _ z => nomatch z) (fun _ z => nomatch z)]
        exact same (noPass (fun c z => by rw [e] at z; cases z) (fun c z => by rw [e] at z; cases z))
      | scr x =>
        rw [plain (fun _ z => nomatch z) (fun _ z => nomatch z)]
        exact same (noPass (fun c z => by rw [e] at z; cases z) (fun c z => by rw [e] at z; cases z))
      | o c0 =>
        have w0 : Own ρ i := ⟨c0, .inl e⟩
        have eb : backR ρ (.b i :: rest) ρc = ρ.set i (match ρc[0]? with
          | some (Sl.r c) => Sl.o c
          | _ => Sl.no) := by
          show (match ρ[i]? with
            | some (.o _) => _
            | some (.r _) => _
            | _ => ρ) = _
          rw [e]
        rw [eb]
        generalize es : (match ρc[0]? with
          | some (Sl.r c) => Sl.o c
          | _ => Sl.no) = s'
        have sub : ∀ j, Own (ρ.set i s') j → Own ρ j := fun j ⟨c, z⟩ => by
          by_cases hj : j = i
          · subst hj; exact w0
          · rw [List.getElem?_set_ne (Ne.symm hj)] at z; exact ⟨c, z⟩
        have cas : s' = .no ∨ ∃ c, s' = .o c ∧ ρc[0]? = some (.r c) := by
          cases q : ρc[0]? with
          | none => rw [q] at es; exact .inl es.symm
          | some t =>
            rw [q] at es
            cases t with
            | r c => exact .inr ⟨c, es.symm, rfl⟩
            | no => exact .inl es.symm
            | d _ => exact .inl es.symm
            | o _ => exact .inl es.symm
            | scr _ => exact .inl es.symm
        refine ⟨main _ (fun j t q => ?_) sub (by simp), ev _ sub fun p j w q pa => ?_⟩
        · by_cases hj : j = i
          · subst hj
            rw [List.getElem?_set_self hi] at q
            cases q
            rcases cas with z | ⟨c, z, q⟩
            · subst z; trivial
            · subst z
              obtain ⟨p, rfl, h3, h5⟩ := left c q w0
              exact ⟨p, rv', h3, (S.ownAt w0 rv').2.1, h5⟩
          · exact other j t hj q
        · have hj := only (sub j w) q pa
          subst hj
          obtain ⟨c, z⟩ := w
          rw [List.getElem?_set_self hi] at z
          rcases cas with h | ⟨c, h, q⟩
          · subst h; rcases z with z | z <;> cases z
          · exact ⟨c, q⟩
      | r c0 =>
        have w0 : Own ρ i := ⟨c0, .inr e⟩
        have eb : backR ρ (.b i :: rest) ρc = ρ.set i (match ρc[0]? with
          | some (Sl.r c) => Sl.r c
          | _ => Sl.no) := by
          show (match ρ[i]? with
            | some (.o _) => _
            | some (.r _) => _
            | _ => ρ) = _
          rw [e]
        rw [eb]
        generalize es : (match ρc[0]? with
          | some (Sl.r c) => Sl.r c
          | _ => Sl.no) = s'
        have sub : ∀ j, Own (ρ.set i s') j → Own ρ j := fun j ⟨c, z⟩ => by
          by_cases hj : j = i
          · subst hj; exact w0
          · rw [List.getElem?_set_ne (Ne.symm hj)] at z; exact ⟨c, z⟩
        have cas : s' = .no ∨ ∃ c, s' = .r c ∧ ρc[0]? = some (.r c) := by
          cases q : ρc[0]? with
          | none => rw [q] at es; exact .inl es.symm
          | some t =>
            rw [q] at es
            cases t with
            | r c => exact .inr ⟨c, es.symm, rfl⟩
            | no => exact .inl es.symm
            | d _ => exact .inl es.symm
            | o _ => exact .inl es.symm
            | scr _ => exact .inl es.symm
        refine ⟨main _ (fun j t q => ?_) sub (by simp), ev _ sub fun p j w q pa => ?_⟩
        · by_cases hj : j = i
          · subst hj
            rw [List.getElem?_set_self hi] at q
            cases q
            rcases cas with z | ⟨c, z, q⟩
            · subst z; trivial
            · subst z
              obtain ⟨p, rfl, h3, h5⟩ := left c q w0
              obtain ⟨p', y, a', _⟩ := S.at e
              rw [rv'] at a'; cases a'
              exact ⟨p, y, rv', h3, (S.ownAt w0 rv').2.1, h5⟩
          · exact other j t hj q
        · have hj := only (sub j w) q pa
          subst hj
          obtain ⟨c, z⟩ := w
          rw [List.getElem?_set_self hi] at z
          rcases cas with h | ⟨c, h, q⟩
          · subst h; rcases z with z | z <;> cases z
          · exact ⟨c, q⟩
/-- a call, by the callee's mirror -/
theorem call_of {m : MF} {ms : MAv} {n : Nat} {Q : VK} (hn : ∀ (as : List Av) (ρ0 r0 : Rho), ms ρ0 = some (.ok as r0) → as.length = n) (h : tE K w (mCall m ms) σ H Q) : tCallS (spF K w.XR n m) (WE w.W) (tM K w relAvs ms) σ H Q := by
  obtain ⟨fr, F, ρ, S, h⟩ := h
  refine ⟨fr, F, ρ, S, ?_⟩
  cases em : ms ρ with
  | none => have h' : WPg K w EvRep Q fr F σ (bd (ms ρ) _) := h; rw [em] at h'; exact h'.elim
  | some r0 =>
    have h' : WPg K w EvRep Q fr F σ (bd (ms ρ) _) := h
    rw [em] at h'
    cases r0 with
    | er x ρ1 => exact h'
    | ok as ρ1 =>
      intro F1 H1 vs S1 s1 r1
      have h1 : WPg K w EvRep Q fr F σ (match argSls ρ1 as with
        | none => none
        | some ρc => match m ρc with
          | some (.ok (.d x) ρc') => some (.ok (.d x) (backR ρ1 as ρc'))
          | some (.ok (.o c) ρc') => some (.ok (.o c) (backR ρ1 as ρc'))
          | some (.er x ρc') => some (.er x (backR ρ1 as ρc'))
          | _ => none) := h'
      cases ea : argSls ρ1 as with
      | none => rw [ea] at h1; exact h1.elim
      | some ρc =>
        rw [ea] at h1
        refine ⟨(Paired.length r1).trans (hn as ρ ρ1 em), calleeFr fr F1 H1 ρ1 σ as, F1, ρc, fun i p e => ?_, S1.enter r1 ea, ?_⟩
        · obtain ⟨rfl, j, a1, a2, a3⟩ := calleeP_some.mp e
          obtain ⟨v, hv, rv⟩ := paired_get r1 a1
          have rv' : σ[j]? = some (some v) := rv
          rw [a3] at rv'; cases rv'
          exact hv
        · have h2 : WPg K w EvRep Q fr F σ (match m ρc with
            | some (.ok (.d x) ρc') => some (.ok (.d x) (backR ρ1 as ρc'))
            | some (.ok (.o c) ρc') => some (.ok (.o c) (backR ρ1 as ρc'))
            | some (.er x ρc') => some (.er x (backR ρ1 as ρc'))
            | _ => none) := h1
          match e : m ρc with
          | none => rw [e] at h2; exact h2.elim
          | some (.ok (.b i) ρc') => rw [e] at h2; exact h2.elim
          | some (.ok (.d x) ρc') =>
            rw [e] at h2
            intro F2 H2 u S2 s2 r2
            obtain ⟨S3, _⟩ := S1.back r1 s2 S2
            exact h2 F2 H2 u S3 (s1.trans s2) r2
          | some (.ok (.o c) ρc') =>
            rw [e] at h2
            intro F2 H2 u S2 s2 r2
            obtain ⟨S3, b⟩ := S1.back r1 s2 S2
            exact h2 F2 H2 u S3 (s1.trans s2) (b u c r2)
          | some (.er x ρc') =>
            rw [e] at h2
            intro F2 H2 c d S2 s2 r2
            obtain ⟨S3, _⟩ := S1.back r1 s2 S2
            exact h2 F2 H2 c d S3 (s1.trans s2) r2
end
end Pv

/-! Operators, comparisons, subscripts, slices, built-in functions and methods, by what they do to plain data. -/
namespace Pv
open PySem PySem.Spec PyProof.Rows L2
/-! ### texts by their signs -/
def mkS (l : List Nat) : Str := ⟨l.toArray⟩
def sL (x : Str) : List Nat := x.cps.toList
@[simp] theorem sL_mk (l : List Nat) : sL (mkS l) = l := rfl
@[simp] theorem mk_sL (x : Str) : mkS (sL x) = x := rfl
theorem mkS_inj {a b : List Nat} (h : mkS a = mkS b) : a = b := by
  have := congrArg sL h; simpa using this
@[simp] theorem mkS_eq {a b : List Nat} : mkS a = mkS b ↔ a = b := ⟨mkS_inj, fun h => by rw [h]⟩
theorem len_sL (x : Str) : x.length = (sL x).length := by
  unfold sL Str.length; exact (Array.length_toList).symm
theorem app_sL (a b : Str) : a ++ b = mkS (sL a ++ sL b) := by
  show Str.append a b = _
  unfold Str.append mkS sL
  simp
theorem lim {n : Nat} (h : n ≤ 1000000) : n ≤ sizeLine := by rw [sizeLine_eq]; omega
abbrev tx (l : List Nat) : PyData := .str (mkS l)
/-- where one view decides -/
def fAdd (x y : PyData) : Option Vr := match x, y with
  | .int a, .int b => some (.it (.int (a + b)))
  | .str a, .str b => if (sL a).length + (sL b).length ≤ 1000000 then some (.it (.str (mkS (sL a ++ sL b)))) else none
  | .list a, .list b => if a.length + b.length ≤ 1000000 then some (.li (a ++ b)) else none
  | .tuple a, .tuple b => if a.length + b.length ≤ 1000000 then (if a = [] ∨ b = [] then some (.it (.tuple (a ++ b))) else some (.tu (a ++ b))) else none
  | _, _ => none
def fSub (x y : PyData) : Option Vr := match x, y with
  | .int a, .int b => some (.it (.int (a - b)))
  | _, _ => none
def fMul (x y : PyData) : Option Vr := match x, y with
  | .int a, .int b => if a.natAbs < 2 ^ 64 ∨ b.natAbs < 2 ^ 64 then some (.it (.int (a * b))) else none
  | .str a, .int b => if b.natAbs ≤ 1000000 ∧ (sL a).length * b.toNat ≤ 1000000 then some (.it (.str (mkS (List.replicate b.toNat (sL a)).flatten))) else none
  | .list a, .int b => if b.natAbs ≤ 1000000 ∧ a.length * b.toNat ≤ 1000000 then some (.li (List.replicate b.toNat a).flatten) else none
  | _, _ => none
def fDiv (x y : PyData) : Option Vr := match x, y with
  | .int a, .int b => if 0 < b ∧ b.natAbs < 1073741824 then some (.it (.int (a / b))) else none
  | _, _ => none
def fMod (x y : PyData) : Option Vr := match x, y with
  | .int a, .int b => if 0 < b then some (.it (.int (a % b))) else none
  | _, _ => none
def fPow (x y : PyData) : Option Vr := match x, y with
  | .int a, .int b => if 0 ≤ b ∧ b ≤ 1000 ∧ a.natAbs < 1000 then some (.it (.int (a ^ b.toNat))) else none
  | _, _ => none
section
variable {X : Cx}
theorem Rp.toInt {F : Hp} (i : Int) : Rp F (.int i) (.int i) := .int i
theorem o_sub : OpR X (binaryOp .Sub) (rF fSub) := by
  intro pins s σ H x y v u Q I rx ry h
  obtain ⟨F, d, e, r, sm, hx, hy, hf, k⟩ := h
  unfold fSub at hf
  split at hf
  · cases hf; exact op_sub pins s σ H x y v u Q I rx ry ⟨_, _, hx.sc rfl, hy.sc rfl, k _ (.int _)⟩
  · cases hf
theorem o_div : OpR X (binaryOp .FloorDiv) (rF fDiv) := by
  intro pins s σ H x y v u Q I rx ry h
  obtain ⟨F, d, e, r, sm, hx, hy, hf, k⟩ := h
  unfold fDiv at hf
  split at hf
  · split at hf
    · rename_i c; cases hf; exact op_fdiv pins s σ H x y v u Q I rx ry ⟨_, _, hx.sc rfl, hy.sc rfl, ⟨c.1, by omega⟩, k _ (.int _)⟩
    · cases hf
  · cases hf
theorem o_mod : OpR X (binaryOp .Mod) (rF fMod) := by
  intro pins s σ H x y v u Q I rx ry h
  obtain ⟨F, d, e, r, sm, hx, hy, hf, k⟩ := h
  unfold fMod at hf
  split at hf
  · split at hf
    · rename_i c; cases hf; exact op_mod pins s σ H x y v u Q I rx ry ⟨_, _, hx.sc rfl, hy.sc rfl, c, k _ (.int _)⟩
    · cases hf
  · cases hf
theorem o_pow : OpR X (binaryOp .Pow) (rF fPow) := by
  intro pins s σ H x y v u Q I rx ry h
  obtain ⟨F, d, e, r, sm, hx, hy, hf, k⟩ := h
  unfold fPow at hf
  split at hf
  · split at hf
    · rename_i c; cases hf; exact op_pow pins s σ H x y v u Q I rx ry ⟨_, _, hx.sc rfl, hy.sc rfl, ⟨c.1, by omega, by omega⟩, k _ (.int _)⟩
    · cases hf
  · cases hf
theorem flat_rep (l : List Nat) : ∀ n, (List.replicate n l.toArray).foldl (· ++ ·) #[] = (List.replicate n l).flatten.toArray := by
  intro n
  have : ∀ (n : Nat) (a : List Nat), (List.replicate n l.toArray).foldl (· ++ ·) a.toArray = (a ++ (List.replicate n l).flatten).toArray := by
    intro n
    induction n with
    | zero => intro a; simp
    | succ n ih => intro a; rw [List.replicate_succ, List.foldl_cons, List.replicate_succ, List.flatten_cons, List.append_toArray, ih, List.append_assoc]
  have z := this n []
  simpa using z
theorem o_mulS {pins : List (Addr × Obj)} {s : Shared} {σ : L2.St} {H : Hp} {Q : VK} {a : Str} {b : Int} {t u : Tok} (I : Inv X pins σ H s) (h1 : -1000000 ≤ b) (h2 : b ≤ 1000000) (h3 : (sL a).length * b.toNat ≤ 1000000)
    (q : Q (.str (mkS (List.replicate b.toNat (sL a)).flatten)) H) : wpAny (model X.prog X.w) X.A (binaryOp .Mult (.str a t) (.int b u)) (EP X pins σ Q) X.xe s := by
  by_cases hb : b < 1
  · refine PySem.P.mul_str_none hb (by omega) ⟨.str Str.empty, H, I.tok _, ⟨_, rfl⟩, ?_⟩
    have e : b.toNat = 0 := by omega
    rw [e] at q
    exact q
  · have hl : a.length = (sL a).length := len_sL a
    have hlen : a.length * b.toNat ≤ 1000000 := by rw [hl]; exact h3
    have hb1 : 1 ≤ b.toNat := by omega
    have ha : a.length ≤ 1000000 := Nat.le_trans (Nat.le_mul_of_pos_right _ hb1) hlen
    refine PySem.P.mul_str ?_ (fun _ _ => ?_) (fun _ _ => ?_) ?_
    · rw [decide_eq_false (by omega), decide_eq_false (by omega)]; rfl
    · have : (1000000 : Int) ≤ (2 ^ 63 - 1) / b := by
        have hp : (0 : Int) < b := by omega
        rw [Int.le_ediv_iff_mul_le hp]
        have : (1000000 : Int) * b ≤ 1000000 * 1000000 := by omega
        omega
      omega
    · exact PyProof.Rows.short24 (by omega)
    · rw [if_neg hb]
      by_cases c : (b == 1 || a.length == 0) = true
      · rw [if_pos c]
        refine ⟨.str a, H, I, ⟨_, rfl⟩, ?_⟩
        have e : mkS (List.replicate b.toNat (sL a)).flatten = a := by
          rw [Bool.or_eq_true] at c
          rcases c with c | c
          · have : b = 1 := by simpa using c
            subst this; simp [List.replicate]
          · have : (sL a).length = 0 := by rw [← hl]; simpa using c
            have e0 : sL a = [] := List.eq_nil_of_length_eq_zero this
            rw [e0]
            have : (List.replicate b.toNat ([] : List Nat)).flatten = [] := by simp
            rw [this, ← mk_sL a, e0]
        rw [e] at q
        exact q
      · rw [if_neg c]
        refine ⟨?_, ⟨.str (mkS (List.replicate b.toNat (sL a)).flatten), H, I.tok _, ⟨s.toks, ?_⟩, q⟩⟩
        · rw [sizeLine_eq]
          show ((List.replicate b.toNat a.cps).foldl (· ++ ·) #[]).size ≤ _
          have : a.cps = (sL a).toArray := by unfold sL; simp
          rw [this, flat_rep]
          simp only [List.size_toArray, List.length_flatten, List.map_replicate, List.sum_replicate_nat]
          rw [Nat.mul_comm]
          omega
        · have : a.cps = (sL a).toArray := by unfold sL; simp
          rw [this, flat_rep]
          rfl
theorem o_mul : OpR X (binaryOp .Mult) (rF fMul) := by
  intro pins s σ H x y v u Q I rx ry h
  obtain ⟨F, d, e, r, sm, hx, hy, hf, k⟩ := h
  unfold fMul at hf
  split at hf
  · split at hf
    · rename_i c; cases hf; exact op_mul pins s σ H x y v u Q I rx ry ⟨_, _, hx.sc rfl, hy.sc rfl, c.imp (fun h => ⟨by omega, by omega⟩) (fun h => ⟨by omega, by omega⟩), k _ (.int _)⟩
    · cases hf
  · split at hf
    · rename_i c
      cases hf
      have e1 := hx.sc rfl
      have e2 := hy.sc rfl
      subst e1 e2
      obtain ⟨t, rfl⟩ := rx
      obtain ⟨t', rfl⟩ := ry
      exact o_mulS I (by omega) (by omega) c.2 (k _ (.str _))
    · cases hf
  · split at hf
    · rename_i c
      cases hf
      obtain ⟨p, vs, rfl, hp, ra⟩ := hx.list sm
      have e2 := hy.sc rfl
      refine op_rep pins s σ H _ y v u Q I rx ry ⟨p, _, vs, rfl, e2, hp, by omega, by omega, ?_, fun q n => ?_⟩
      · rw [ra.length]; exact lim c.2
      · exact k _ q (by
          have : ∀ n, RpA F (List.replicate n vs).flatten (List.replicate n _).flatten := fun n => by
            induction n with
            | zero => exact .nil
            | succ n ih => rw [List.replicate_succ, List.replicate_succ, List.flatten_cons, List.flatten_cons]; exact ra.app ih
          exact this _) n
    · cases hf
  · cases hf
theorem o_add : OpR X (binaryOp .Add) (rF fAdd) := by
  intro pins s σ H x y v u Q I rx ry h
  obtain ⟨F, d, e, r, sm, hx, hy, hf, k⟩ := h
  unfold fAdd at hf
  split at hf
  · cases hf; exact op_add pins s σ H x y v u Q I rx ry ⟨_, _, hx.sc rfl, hy.sc rfl, k _ (.int _)⟩
  · split at hf
    · rename_i c
      cases hf
      refine op_add_str pins s σ H x y v u Q I rx ry ⟨_, _, hx.sc rfl, hy.sc rfl, by rw [len_sL, len_sL]; exact lim c, ?_⟩
      rw [app_sL]
      exact k _ (.str _)
    · cases hf
  · split at hf
    · rename_i c
      cases hf
      obtain ⟨p, vs, rfl, hp, ra⟩ := hx.list sm
      obtain ⟨p2, vs2, rfl, hp2, ra2⟩ := hy.list sm
      exact op_cat pins s σ H _ _ v u Q I rx ry ⟨p, p2, vs, vs2, rfl, rfl, hp, hp2, by rw [ra.length, ra2.length]; exact lim c, fun q n => k _ q (ra.app ra2) n⟩
    · cases hf
  · split at hf
    · rename_i c
      obtain ⟨p, vs, rfl, hp, ra⟩ := hx.tup
      obtain ⟨p2, vs2, rfl, hp2, ra2⟩ := hy.tup
      refine op_catA pins s σ H _ _ v u Q I rx ry ⟨p, p2, vs, vs2, rfl, rfl, SqT.of (sm _ _ hp), SqT.of (sm _ _ hp2), by rw [ra.length, ra2.length]; exact lim c, fun e0 => ?_, fun n0 e0 => ?_, fun n0 n1 q n => ?_⟩
      · subst e0
        have z := ra.length
        have e1 := List.eq_nil_of_length_eq_zero (z.symm.trans rfl)
        rw [if_pos (.inl e1)] at hf
        cases hf
        rw [e1] at k
        exact k _ (.tup hp2 ra2)
      · subst e0
        have z := ra2.length
        have e1 := List.eq_nil_of_length_eq_zero (z.symm.trans rfl)
        rw [if_pos (.inr e1)] at hf
        cases hf
        rw [e1, List.append_nil] at k
        exact k _ (.tup hp ra)
      · rw [if_neg (by
          rintro (z | z)
          · subst z; cases ra; exact n0 rfl
          · subst z; cases ra2; exact n1 rfl)] at hf
        cases hf
        exact k _ q (ra.app ra2) n
    · cases hf
  · cases hf
def fNeg (x : PyData) : Option Vr := match x with
  | .int a => some (.it (.int (-a)))
  | _ => none
theorem o_neg : UnR X (unaryOp .USub) (rF1 fNeg) := by
  intro pins s σ H x v Q I rx h
  obtain ⟨F, d, r, sm, hx, hf, k⟩ := h
  unfold fNeg at hf
  split at hf
  · cases hf; exact un_neg pins s σ H x v Q I rx ⟨_, hx.sc rfl, k _ (.int _)⟩
  · cases hf

/-! ### comparisons -/
abbrev bv (b : Bool) : Option Vr := some (.it (.bool b))
def fEq (x y : PyData) : Option Vr := match x, y with
  | .str a, .str b => bv (decide (sL a = sL b))
  | .int a, .int b => bv (decide (a = b))
  | x, y => if SeqAt.shaped x = true ∧ SeqAt.shaped y = true then bv (PyData.eqv x y) else none
def fNe (x y : PyData) : Option Vr := match x, y with
  | .str a, .str b => bv (!decide (sL a = sL b))
  | .int a, .int b => bv (!decide (a = b))
  | x, y => if SeqAt.shaped x = true ∧ SeqAt.shaped y = true then bv (!PyData.eqv x y) else none
theorem sL_dec (a b : Str) : decide (V.str a = V.str b) = decide (sL a = sL b) := by
  rw [Bool.eq_iff_iff]
  simp only [decide_eq_true_eq]
  refine ⟨fun h => by cases h; rfl, fun h => ?_⟩
  rw [← mk_sL a, ← mk_sL b, h]
theorem int_dec (a b : Int) : decide (V.int a = V.int b) = decide (a = b) := by
  rw [Bool.eq_iff_iff]; simp
theorem o_eq {k : Nat} (hr : Room k X.A) : OpR X (compareOp .Eq) (rF fEq) := by
  intro pins s σ H x y v u Q I rx ry h
  obtain ⟨F, d, e, r, sm, hx, hy, hf, k⟩ := h
  unfold fEq at hf
  split at hf
  · cases hf
    have e1 := hx.sc rfl
    have e2 := hy.sc rfl
    subst e1 e2
    refine op_eq pins s σ H _ _ v u Q I rx ry ⟨rfl, ?_⟩
    show Q (.bl (decide (V.str _ = V.str _))) H
    rw [sL_dec]
    exact k _ (.bl _)
  · cases hf
    have e1 := hx.sc rfl
    have e2 := hy.sc rfl
    subst e1 e2
    refine op_eq pins s σ H _ _ v u Q I rx ry ⟨rfl, ?_⟩
    show Q (.bl (decide (V.int _ = V.int _))) H
    rw [int_dec]
    exact k _ (.bl _)
  · split at hf
    · rename_i c
      cases hf
      exact op_eqD hr.units pins s σ H x y v u Q I rx ry ⟨_, _, Rp.dp _ _ (hx.rp sm), Rp.dp _ _ (hy.rp sm), c.1, c.2, k _ (.bl _)⟩
    · cases hf
theorem o_ne {k : Nat} (hr : Room k X.A) : OpR X (compareOp .NotEq) (rF fNe) := by
  intro pins s σ H x y v u Q I rx ry h
  obtain ⟨F, d, e, r, sm, hx, hy, hf, k⟩ := h
  unfold fNe at hf
  split at hf
  · cases hf
    have e1 := hx.sc rfl
    have e2 := hy.sc rfl
    subst e1 e2
    refine op_ne pins s σ H _ _ v u Q I rx ry ⟨rfl, ?_⟩
    show Q (.bl (!decide (V.str _ = V.str _))) H
    rw [sL_dec]
    exact k _ (.bl _)
  · cases hf
    have e1 := hx.sc rfl
    have e2 := hy.sc rfl
    subst e1 e2
    refine op_ne pins s σ H _ _ v u Q I rx ry ⟨rfl, ?_⟩
    show Q (.bl (!decide (V.int _ = V.int _))) H
    rw [int_dec]
    exact k _ (.bl _)
  · split at hf
    · rename_i c
      cases hf
      exact op_neD hr.units pins s σ H x y v u Q I rx ry ⟨_, _, Rp.dp _ _ (hx.rp sm), Rp.dp _ _ (hy.rp sm), c.1, c.2, k _ (.bl _)⟩
    · cases hf
def fCmp (fi : Int → Int → Bool) (fs : List Nat → List Nat → Bool) (x y : PyData) : Option Vr := match x, y with
  | .int a, .int b => bv (fi a b)
  | .str a, .str b => bv (fs (sL a) (sL b))
  | _, _ => none
abbrev fLt := fCmp (fun a b => decide (a < b)) (fun a b => decide (a < b))
abbrev fLe := fCmp (fun a b => decide (a ≤ b)) (fun a b => !decide (b < a))
abbrev fGt := fCmp (fun a b => decide (b < a)) (fun a b => decide (b < a))
abbrev fGe := fCmp (fun a b => decide (b ≤ a)) (fun a b => !decide (a < b))
theorem o_cmp {op : CmpOp} {fi : Int → Int → Bool} {fs : List Nat → List Nat → Bool} (h1 : OpR X (compareOp op) (rI0 fun i j => .bl (fi i j)))
    (h2 : OpR X (compareOp op) (fun x y H Q => ∃ i j, x = .str i ∧ y = .str j ∧ Q (.bl (fs i.cps.toList j.cps.toList)) H)) : OpR X (compareOp op) (rF (fCmp fi fs)) := by
  intro pins s σ H x y v u Q I rx ry h
  obtain ⟨F, d, e, r, sm, hx, hy, hf, k⟩ := h
  unfold fCmp at hf
  split at hf
  · cases hf; exact h1 pins s σ H x y v u Q I rx ry ⟨_, _, hx.sc rfl, hy.sc rfl, k _ (.bl _)⟩
  · cases hf; exact h2 pins s σ H x y v u Q I rx ry ⟨_, _, hx.sc rfl, hy.sc rfl, k _ (.bl _)⟩
  · cases hf
theorem o_lt : OpR X (compareOp .Lt) (rF fLt) := o_cmp op_lt op_lt_str
theorem o_le : OpR X (compareOp .LtE) (rF fLe) := o_cmp op_le op_le_str
theorem o_gt : OpR X (compareOp .Gt) (rF fGt) := o_cmp op_gt op_gt_str
theorem o_ge : OpR X (compareOp .GtE) (rF fGe) := o_cmp op_ge op_ge_str
def isNone : PyData → Bool
  | .none => true
  | _ => false
def fIs (x y : PyData) : Option Vr := match x, y with
  | x, .none => bv (isNone x)
  | .bool a, .bool b => bv (decide (a = b))
  | _, _ => none
def fIsNot (x y : PyData) : Option Vr := match x, y with
  | x, .none => bv (!isNone x)
  | .bool a, .bool b => bv (!decide (a = b))
  | _, _ => none
theorem none_view {F H : Hp} {u : V} {x : PyData} (h : Vw F H u x) : decide (u = .non) = isNone x := by
  rcases h with h | ⟨p, vs, xs, rfl, rfl, _⟩
  · cases h <;> rfl
  · rfl
theorem o_is : OpR X (compareOp .Is) (rF fIs) := by
  intro pins s σ H x y v u Q I rx ry h
  obtain ⟨F, d, e, r, sm, hx, hy, hf, k⟩ := h
  unfold fIs at hf
  split at hf
  · cases hf
    refine op_isN pins s σ H x y v u Q I rx ry ⟨hy.sc rfl, ?_⟩
    rw [none_view hx]
    exact k _ (.bl _)
  · cases hf; exact op_isBl pins s σ H x y v u Q I rx ry ⟨_, _, hx.sc rfl, hy.sc rfl, k _ (.bl _)⟩
  · cases hf
theorem o_isnot : OpR X (compareOp .IsNot) (rF fIsNot) := by
  intro pins s σ H x y v u Q I rx ry h
  obtain ⟨F, d, e, r, sm, hx, hy, hf, k⟩ := h
  unfold fIsNot at hf
  split at hf
  · cases hf
    refine op_notN pins s σ H x y v u Q I rx ry ⟨hy.sc rfl, ?_⟩
    rw [none_view hx]
    exact k _ (.bl _)
  · cases hf; exact op_notBl pins s σ H x y v u Q I rx ry ⟨_, _, hx.sc rfl, hy.sc rfl, k _ (.bl _)⟩
  · cases hf
/-! in: a sign in a text, a plain thing in a list or tuple of plain things -/
def eqP : PyData → PyData → Bool
  | .none, .none => true
  | .bool a, .bool b => a == b
  | .bool a, .int b => (if a then 1 else 0) == b
  | .int a, .bool b => a == (if b then 1 else 0)
  | .int a, .int b => a == b
  | .str a, .str b => a == b
  | _, _ => false
def inP (x : PyData) (xs : List PyData) : Bool := xs.any fun y => eqP y x
def fIn (x y : PyData) : Option Vr := match x, y with
  | .str a, .str b => match sL a with
    | [c] => bv (decide (c ∈ sL b))
    | _ => none
  | x, .list xs => if scalar x = true ∧ xs.all scalar = true then bv (inP x xs) else none
  | x, .tuple xs => if scalar x = true ∧ xs.all scalar = true then bv (inP x xs) else none
  | _, _ => none
def fNotIn (x y : PyData) : Option Vr := match fIn x y with
  | some (.it (.bool b)) => bv (!b)
  | _ => none
theorem flat_of {F : Hp} {u : V} {x : PyData} (h : scalar x = true) (r : Rp F u x) : flatV u = true := by
  cases r <;> first | rfl | cases h
theorem flats_of {F : Hp} : ∀ {xs : List PyData} {vs : List V}, xs.all scalar = true → RpA F vs xs → vs.all flatV = true
  | _, _, _, .nil => rfl
  | _, _, h, .cons r t => by
    rw [List.all_cons, Bool.and_eq_true] at h
    rw [List.all_cons, flat_of h.1 r, flats_of h.2 t]; rfl
theorem eqP_of {F : Hp} {u v : V} {x y : PyData} (hx : scalar x = true) (hy : scalar y = true) (r : Rp F u x) (q : Rp F v y) : eqV u v = eqP x y := by
  cases r with
  | lst _ _ => cases hx
  | tup _ _ => cases hx
  | non => cases q <;> first | rfl | cases hy
  | bl _ => cases q <;> first | rfl | cases hy
  | int _ => cases q <;> first | rfl | cases hy
  | str _ => cases q <;> first | rfl | cases hy
theorem inP_of {F : Hp} {u : V} {x : PyData} (hx : scalar x = true) (r : Rp F u x) : ∀ {xs : List PyData} {vs : List V}, xs.all scalar = true → RpA F vs xs → inV u vs = inP x xs
  | _, _, _, .nil => rfl
  | _, _, h, .cons q t => by
    rw [List.all_cons, Bool.and_eq_true] at h
    show (eqV _ _ || inV u _) = (eqP _ _ || inP x _)
    rw [eqP_of h.1 hx q r, inP_of hx r h.2 t]
theorem sign_of {a : Str} {c : Nat} (h : sL a = [c]) : a = ⟨#[c]⟩ := by rw [← mk_sL a, h]; rfl
theorem o_inG {op : CmpOp} {neg : Bool} (h1 : OpR X (compareOp op) (fun x y H Q => ∃ (c : Nat) (z : Str), x = .str ⟨#[c]⟩ ∧ y = .str z ∧ Q (.bl (if neg then !decide (c ∈ z.cps.toList) else decide (c ∈ z.cps.toList))) H)) (h2 : OpR X (compareOp op) (rIn X.K neg)) :
    OpR X (compareOp op) (rF fun x y => match fIn x y with
      | some (.it (.bool b)) => bv (if neg then !b else b)
      | _ => none) := by
  intro pins s σ H x y v u Q I rx ry h
  obtain ⟨F, d, e, r, sm, hx, hy, hf, k⟩ := h
  cases e1 : fIn d e with
  | none => simp only [e1] at hf; cases hf
  | some z =>
    have e1' := e1
    unfold fIn at e1
    split at e1
    · split at e1
      · rename_i c hc
        cases e1
        simp only [e1'] at hf
        cases hf
        have e2 := hx.sc rfl
        have e3 := hy.sc rfl
        subst e2 e3
        have := sign_of hc
        subst this
        exact h1 pins s σ H _ _ v u Q I rx ry ⟨_, _, rfl, rfl, k _ (.bl _)⟩
      · cases e1
    · split at e1
      · rename_i c
        cases e1
        simp only [e1'] at hf
        cases hf
        obtain ⟨p, vs, rfl, hp, ra⟩ := hy.list sm
        have hx' : Rp F x d := by
          rcases hx with hx | ⟨p, vs, xs, rfl, rfl, _⟩
          · exact hx
          · cases c.1
        refine h2 pins s σ H x _ v u Q I rx ry ⟨p, vs, rfl, .inl (SqL.of hp), flat_of c.1 hx', flats_of c.2 ra, ?_⟩
        rw [inP_of c.1 hx' c.2 ra]
        exact k _ (.bl _)
      · cases e1
    · split at e1
      · rename_i c
        cases e1
        simp only [e1'] at hf
        cases hf
        obtain ⟨p, vs, rfl, hp, ra⟩ := hy.tup
        have hx' : Rp F x d := by
          rcases hx with hx | ⟨p, vs, xs, rfl, rfl, _⟩
          · exact hx
          · cases c.1
        refine h2 pins s σ H x _ v u Q I rx ry ⟨p, vs, rfl, .inr (SqT.of (sm _ _ hp)), flat_of c.1 hx', flats_of c.2 ra, ?_⟩
        rw [inP_of c.1 hx' c.2 ra]
        exact k _ (.bl _)
      · cases e1
    · cases e1
theorem opR_imp {f : Value → Value → Sem Value} {r r' : R2} (h : OpR X f r) (k : ∀ x y H Q, r' x y H Q → r x y H Q) : OpR X f r' := fun pins s σ H x y v u Q I rx ry q => h pins s σ H x y v u Q I rx ry (k _ _ _ _ q)
theorem o_in : OpR X (compareOp .In) (rF fIn) := opR_imp (o_inG (neg := false) op_in_sign op_in_seq) fun x y H Q ⟨F, d, e, r, sm, hx, hy, hf, k⟩ => by
  refine ⟨F, d, e, r, sm, hx, hy, ?_, k⟩
  have : ∃ b, r = .it (.bool b) := by
    unfold fIn at hf
    repeat' split at hf
    all_goals first | (cases hf; exact ⟨_, rfl⟩) | cases hf
  obtain ⟨b, rfl⟩ := this
  simp only [hf, bv]
  rfl
theorem o_notin : OpR X (compareOp .NotIn) (rF fNotIn) := opR_imp (o_inG (neg := true) op_notIn_sign op_notIn_seq) fun x y H Q ⟨F, d, e, r, sm, hx, hy, hf, k⟩ => by
  refine ⟨F, d, e, r, sm, hx, hy, ?_, k⟩
  unfold fNotIn at hf
  split at hf
  · rename_i b hb; simp only [hb]; exact hf
  · cases hf

/-! ### subscripts, slices -/
def fIx (x y : PyData) : Option Vr := match x, y with
  | .list xs, .int i => (atI xs i).map .it
  | .tuple xs, .int i => (atI xs i).map .it
  | .str z, .int i => if (sL z).length ≤ 1000000 then (atI (sL z) i).map fun c => .it (tx [c]) else none
  | _, _ => none
theorem atI_rp {F : Hp} {xs : List PyData} {vs : List V} {i : Int} {x : PyData} (ra : RpA F vs xs) (h : atI xs i = some x) : ∃ v, atI vs i = some v ∧ Rp F v x := by
  unfold atI at h ⊢
  rw [ra.length]
  cases e : ixN xs.length i with
  | none => rw [e] at h; cases h
  | some j => rw [e] at h; exact ra.get h
theorem o_ix : IxR X (rF fIx) := by
  intro value slice pins s σ H x y v u Q I rx ry h hs
  obtain ⟨F, d, e, r, sm, hx, hy, hf, k⟩ := h
  unfold fIx at hf
  split at hf
  · obtain ⟨p, vs, rfl, hp, ra⟩ := hx.list sm
    obtain ⟨z, e1, rfl⟩ := Option.map_eq_some_iff.mp hf
    obtain ⟨w, e2, rw'⟩ := atI_rp ra e1
    exact ix_list value slice pins s σ H _ y v u Q I rx ry ⟨p, vs, _, w, rfl, hy.sc rfl, SqL.of hp, e2, k _ rw'⟩ hs
  · obtain ⟨p, vs, rfl, hp, ra⟩ := hx.tup
    obtain ⟨z, e1, rfl⟩ := Option.map_eq_some_iff.mp hf
    obtain ⟨w, e2, rw'⟩ := atI_rp ra e1
    exact ix_tup value slice pins s σ H _ y v u Q I rx ry ⟨p, vs, _, w, rfl, hy.sc rfl, SqT.of (sm _ _ hp), e2, k _ rw'⟩ hs
  · split at hf
    · rename_i c
      obtain ⟨z, e1, rfl⟩ := Option.map_eq_some_iff.mp hf
      exact ix_str value slice pins s σ H x y v u Q I rx ry ⟨_, _, z, hx.sc rfl, hy.sc rfl, by rw [len_sL]; exact lim c, e1, k _ (.str _)⟩ hs
    · cases hf
  · cases hf
def cutP {α : Type} (xs : List α) (lo hi : Option Int) : List α := (xs.drop (HT.sIx xs.length 0 lo)).take (HT.sIx xs.length xs.length hi - HT.sIx xs.length 0 lo)
def fSl (lo hi : Option Int) (x : PyData) : Option Vr := match x with
  | .list xs => some (.li (cutP xs lo hi))
  | .tuple xs => if HT.sIx xs.length 0 lo = 0 ∧ HT.sIx xs.length xs.length hi = xs.length then some (.it (.tuple xs)) else some (.tu (cutP xs lo hi))
  | .str z => if (sL z).length ≤ 1000000 then some (.it (.str (mkS (cutP (sL z) lo hi)))) else none
  | _ => none
def rSl : V → Option Int → Option Int → Hp → VK → Prop := fun x lo hi H Q => rF1 (fSl lo hi) x H Q
theorem sl_any : SlR X rSl := by
  intro pins s σ H x v vl vu lo hi sl Q I rx hs pl pu h
  obtain ⟨F, d, r, sm, hx, hf, k⟩ := h
  unfold fSl at hf
  split at hf
  · cases hf
    obtain ⟨p, vs, rfl, hp, ra⟩ := hx.list sm
    refine sl_list pins s σ H _ v vl vu lo hi sl Q I rx hs pl pu ⟨p, vs, rfl, SqL.of hp, fun q n => k _ q ?_ n⟩
    unfold cutV cutP
    rw [ra.length]
    exact (ra.drop _).take _
  · obtain ⟨p, vs, rfl, hp, ra⟩ := hx.tup
    refine sl_tupA pins s σ H _ v vl vu lo hi sl Q I rx hs pl pu ⟨p, vs, rfl, SqT.of (sm _ _ hp), fun c => ?_, fun c q n => ?_⟩
    · rw [ra.length] at c
      rw [if_pos c] at hf
      cases hf
      exact k _ (.tup hp ra)
    · rw [ra.length] at c
      rw [if_neg c] at hf
      cases hf
      refine k _ q ?_ n
      unfold cutV cutP
      rw [ra.length]
      exact (ra.drop _).take _
  · split at hf
    · rename_i c
      cases hf
      refine sl_str pins s σ H x v vl vu lo hi sl Q I rx hs pl pu ⟨_, hx.sc rfl, by rw [len_sL]; exact lim c, ?_⟩
      have : ∀ z : Str, cutS z lo hi = mkS (cutP (sL z) lo hi) := fun z => by
        unfold cutS cutP mkS
        rw [len_sL]; rfl
      rw [this]
      exact k _ (.str _)
    · cases hf
  · cases hf
/-- a slice's part -/
def mPart (me : ME) : Rho → Option (Rg (Option Int)) := fun ρ => bd (me ρ) fun v ρ1 => match rd v ρ1 with
  | some (.int i) => some (.ok (some i) ρ1)
  | _ => none
def mNoPart : Rho → Option (Rg (Option Int)) := fun ρ => some (.ok none ρ)
abbrev relP : RelT (Option Int) (Option Int) := fun _ _ _ _ _ b a => b = a
variable {w : WC} {e : Expr} {pos : Pos}
theorem p_none : PO X none (tM X.K w relP mNoPart) := ⟨fun pins s σ H Q I h => po_none.run pins s σ H Q I (by
  obtain ⟨fr, F, ρ, S, h⟩ := h
  exact h F H _ S (Same.refl _) rfl)⟩
theorem p_some {me : ME} (he : PE X e (tE X.K w me)) : PO X (some e) (tM X.K w relP (mPart me)) := ⟨fun pins s σ H Q I h => (po_some he).run pins s σ H Q I (by
  obtain ⟨fr, F, ρ, S, h⟩ := h
  refine ⟨fr, F, ρ, S, h.bd fun v ρ1 F1 H1 u S1 s1 r1 h1 => ?_⟩
  cases e1 : rd v ρ1 with
  | none => rw [e1] at h1; exact h1.elim
  | some x =>
    rw [e1] at h1
    have vw := rd_ok S1 r1 e1
    match x, vw, h1 with
    | .int i, vw, h1 => exact ⟨i, vw.sc rfl, h1 F1 H1 _ S1 (Same.refl _) rfl⟩)⟩
def mSlice (me : ME) (ml mh : Rho → Option (Rg (Option Int))) : ME := fun ρ => bd (me ρ) fun v ρ1 => bd (ml ρ1) fun lo ρ2 => bd (mh ρ2) fun hi ρ3 => match rd v ρ3 with
  | some x => (fSl lo hi x).map fun r => .ok (ofVr r) ρ3
  | none => none
theorem e_slice {me : ME} {ml mh : Rho → Option (Rg (Option Int))} {lo hi : Option Expr} {p2 : Pos} (he : PE X e (tE X.K w me)) (hl : PO X lo (tM X.K w relP ml)) (hu : PO X hi (tM X.K w relP mh)) : PE X (.Subscript e (.Slice lo hi none p2) pos) (tE X.K w (mSlice me ml mh)) := by
  refine wkE (pe_slice sl_any he hl hu) fun σ H Q h => ?_
  obtain ⟨fr, F, ρ, S, h⟩ := h
  refine ⟨fr, F, ρ, S, h.bd fun v1 ρ1 F1 H1 u1 S1 s1 r1 h1 => ?_⟩
  obtain ⟨g, le, Sg, back⟩ := hold S1 r1
  have h1' := h1.frame (g := g) le S1.sA fun F' H' ρ' b a sm Sx q => (back F' H' ρ' Sx sm).2.2 _ _ q
  refine ⟨g, F1, ρ1, Sg, h1'.bd fun v2 ρ2 F2 H2 u2 S2 s2 r2 h2 => ⟨g, F2, ρ2, S2, h2.bd fun v3 ρ3 F3 H3 u3 S3 s3 r3 h3 => ?_⟩⟩
  have r2 : u2 = v2 := r2
  have r3 : u3 = v3 := r3
  subst r2 r3
  obtain ⟨S3', r1', _⟩ := back F3 H3 ρ3 S3 (s2.trans s3)
  cases e1 : rd v1 ρ3 with
  | none => rw [e1] at h3; exact h3.elim
  | some x =>
    rw [e1] at h3
    have h4 : WPg X.K w EvRep Q g F3 σ ((fSl u2 u3 x).map fun r => .ok (ofVr r) ρ3) := h3
    cases e3 : fSl u2 u3 x with
    | none => rw [e3] at h4; exact h4.elim
    | some r => rw [e3] at h4; exact ⟨F3, x, r, S3.sF, rd_ok S3' r1' e1, e3, WVr_of S3 h4⟩
end
end Pv

/-! Built-in functions, methods, what is walked, changed lists and dicts. -/
namespace Pv
open PySem PySem.Spec PyProof.Rows L2
def intsOf : List PyData → Option (List Int)
  | [] => some []
  | .int i :: r => (intsOf r).map (i :: ·)
  | _ :: _ => none
def strsOf : List PyData → Option (List (List Nat))
  | [] => some []
  | .str s :: r => (strsOf r).map (sL s :: ·)
  | _ :: _ => none
def blsOf : List PyData → Option (List Bool)
  | [] => some []
  | .bool i :: r => (blsOf r).map (i :: ·)
  | _ :: _ => none
theorem intsOf_eq : ∀ {xs : List PyData} {ns : List Int}, intsOf xs = some ns → xs = ns.map .int
  | [], ns, h => by cases h; rfl
  | x :: r, ns, h => by
    cases x <;> first
      | (simp only [intsOf] at h; cases e : intsOf r with
          | none => rw [e] at h; cases h
          | some ms => rw [e] at h; cases h; rw [intsOf_eq e]; rfl)
      | (simp [intsOf] at h)
@[simp] theorem intsOf_map : ∀ ns : List Int, intsOf (ns.map .int) = some ns
  | [] => rfl
  | n :: ns => by simp [intsOf, intsOf_map ns]
theorem strsOf_eq : ∀ {xs : List PyData} {ns : List (List Nat)}, strsOf xs = some ns → xs = ns.map tx
  | [], ns, h => by cases h; rfl
  | x :: r, ns, h => by
    cases x <;> first
      | (simp only [strsOf] at h; cases e : strsOf r with
          | none => rw [e] at h; cases h
          | some ms => rw [e] at h; cases h; rw [strsOf_eq e]; rfl)
      | (simp [strsOf] at h)
@[simp] theorem strsOf_map : ∀ ns : List (List Nat), strsOf (ns.map tx) = some ns
  | [] => rfl
  | n :: ns => by simp [strsOf, strsOf_map ns]
theorem blsOf_eq : ∀ {xs : List PyData} {ns : List Bool}, blsOf xs = some ns → xs = ns.map .bool
  | [], ns, h => by cases h; rfl
  | x :: r, ns, h => by
    cases x <;> first
      | (simp only [blsOf] at h; cases e : blsOf r with
          | none => rw [e] at h; cases h
          | some ms => rw [e] at h; cases h; rw [blsOf_eq e]; rfl)
      | (simp [blsOf] at h)
@[simp] theorem blsOf_map : ∀ ns : List Bool, blsOf (ns.map .bool) = some ns
  | [] => rfl
  | n :: ns => by simp [blsOf, blsOf_map ns]
theorem txs_map (ns : List (List Nat)) : ns.map tx = (ns.map mkS).map PyData.str := by rw [List.map_map]; rfl

/-! ### built-in functions -/
def fLen (x : PyData) : Option Vr := match x with
  | .str s => if (sL s).length ≤ 1000000 then some (.it (.int (sL s).length)) else none
  | .list xs => some (.it (.int xs.length))
  | .tuple xs => some (.it (.int xs.length))
  | _ => none
def fAbs (x : PyData) : Option Vr := match x with
  | .int a => some (.it (.int (if a < 0 then -a else a)))
  | _ => none
def fInt (x : PyData) : Option Vr := match x with
  | .int a => some (.it (.int a))
  | .bool b => some (.it (.int (if b then 1 else 0)))
  | _ => none
def fSum (x : PyData) : Option Vr := match x with
  | .list xs => (intsOf xs).map fun ns => .it (.int ns.sum)
  | _ => none
def maxL : Int → List Int → Int
  | m, [] => m
  | m, x :: r => maxL (if m < x then x else m) r
def minL : Int → List Int → Int
  | m, [] => m
  | m, x :: r => minL (if x < m then x else m) r
theorem maxL_ge : ∀ (r : List Int) (m : Int), m ≤ maxL m r ∧ ∀ y ∈ r, y ≤ maxL m r
  | [], m => ⟨Int.le_refl _, fun y h => by cases h⟩
  | x :: r, m => by
    obtain ⟨h1, h2⟩ := maxL_ge r (if m < x then x else m)
    show m ≤ maxL (if m < x then x else m) r ∧ _
    refine ⟨?_, fun y hy => ?_⟩
    · by_cases c : m < x
      · rw [if_pos c] at h1 ⊢; omega
      · rw [if_neg c] at h1 ⊢; omega
    · rcases List.mem_cons.mp hy with rfl | hy
      · show y ≤ maxL (if m < y then y else m) r
        by_cases c : m < y
        · rw [if_pos c] at h1 ⊢; omega
        · rw [if_neg c] at h1 ⊢; omega
      · exact h2 y hy
theorem maxL_mem : ∀ (r : List Int) (m : Int), maxL m r = m ∨ maxL m r ∈ r
  | [], m => .inl rfl
  | x :: r, m => by
    show maxL (if m < x then x else m) r = m ∨ maxL (if m < x then x else m) r ∈ x :: r
    rcases maxL_mem r (if m < x then x else m) with h | h
    · rw [h]; split
      · exact .inr List.mem_cons_self
      · exact .inl rfl
    · exact .inr (List.mem_cons_of_mem _ h)
theorem minL_le : ∀ (r : List Int) (m : Int), minL m r ≤ m ∧ ∀ y ∈ r, minL m r ≤ y
  | [], m => ⟨Int.le_refl _, fun y h => by cases h⟩
  | x :: r, m => by
    obtain ⟨h1, h2⟩ := minL_le r (if x < m then x else m)
    show minL (if x < m then x else m) r ≤ m ∧ _
    refine ⟨?_, fun y hy => ?_⟩
    · by_cases c : x < m
      · rw [if_pos c] at h1 ⊢; omega
      · rw [if_neg c] at h1 ⊢; omega
    · rcases List.mem_cons.mp hy with rfl | hy
      · show minL (if y < m then y else m) r ≤ y
        by_cases c : y < m
        · rw [if_pos c] at h1 ⊢; omega
        · rw [if_neg c] at h1 ⊢; omega
      · exact h2 y hy
theorem minL_mem : ∀ (r : List Int) (m : Int), minL m r = m ∨ minL m r ∈ r
  | [], m => .inl rfl
  | x :: r, m => by
    show minL (if x < m then x else m) r = m ∨ minL (if x < m then x else m) r ∈ x :: r
    rcases minL_mem r (if x < m then x else m) with h | h
    · rw [h]; split
      · exact .inr List.mem_cons_self
      · exact .inl rfl
    · exact .inr (List.mem_cons_of_mem _ h)
def fMax (x : PyData) : Option Vr := match x with
  | .list xs => match intsOf xs with
    | some (n :: ns) => some (.it (.int (maxL n ns)))
    | _ => none
  | _ => none
def fMin (x : PyData) : Option Vr := match x with
  | .list xs => match intsOf xs with
    | some (n :: ns) => some (.it (.int (minL n ns)))
    | _ => none
  | _ => none
def fAll (x : PyData) : Option Vr := match x with
  | .list xs => (blsOf xs).map fun bs => .it (.bool (bs.all id))
  | _ => none
def fList (x : PyData) : Option Vr := match x with
  | .list xs => some (.li xs)
  | .tuple xs => some (.li xs)
  | .str s => if (sL s).length ≤ 1000000 then some (.li ((sL s).map fun c => tx [c])) else none
  | _ => none
def fTuple (x : PyData) : Option Vr := match x with
  | .list xs => some (.tu xs)
  | _ => none
def tyN : PyData → String
  | .none => "NoneType" | .bool _ => "bool" | .int _ => "int" | .str _ => "str" | .list _ => "list" | .tuple _ => "tuple" | .dict _ => "dict"
def isiB : String → PyData → Option Bool
  | "int", x => some (match x with
    | .int _ => true
    | .bool _ => true
    | _ => false)
  | "bool", x => some (match x with
    | .bool _ => true
    | _ => false)
  | "str", x => some (match x with
    | .str _ => true
    | _ => false)
  | "tuple", x => some (match x with
    | .tuple _ => true
    | _ => false)
  | "list", x => some (match x with
    | .list _ => true
    | _ => false)
  | _, _ => none
def fIsi (T : String) (x : PyData) : Option Vr := match x with
  | .dict _ => none
  | x => (isiB T x).map fun b => .it (.bool b)
def fMin2 (xs : List PyData) : Option Vr := match xs with
  | [.int a, .int b] => some (.it (.int (if b < a then b else a)))
  | _ => none
def fMax2 (xs : List PyData) : Option Vr := match xs with
  | [.int a, .int b] => some (.it (.int (if a < b then b else a)))
  | _ => none
section
variable {X : Cx} {F H : Hp} {u : V} {Q : VK}
theorem c_len : ∀ u H Q, rF1 fLen u H Q → (fun (xs : List V) (H : Hp) (Q : VK) => ∃ x n, xs = [x] ∧ LenV X.K x H n ∧ Q (.int n) H) [u] H Q := by
  intro u H Q ⟨F, d, r, sm, hx, hf, k⟩
  unfold fLen at hf
  split at hf
  · split at hf
    · rename_i c; cases hf
      have e := hx.sc rfl; subst e
      exact ⟨_, _, rfl, ⟨by rw [len_sL]; exact lim c, (len_sL _).symm⟩, k _ (.int _)⟩
    · cases hf
  · cases hf
    obtain ⟨p, vs, rfl, hp, ra⟩ := hx.list sm
    exact ⟨_, _, rfl, .inl ⟨vs, SqL.of hp, ra.length.symm⟩, k _ (.int _)⟩
  · cases hf
    obtain ⟨p, vs, rfl, hp, ra⟩ := hx.tup
    exact ⟨_, _, rfl, .inr ⟨vs, SqT.of (sm _ _ hp), ra.length.symm⟩, k _ (.int _)⟩
  · cases hf
theorem c_abs : ∀ u H Q, rF1 fAbs u H Q → (fun (xs : List V) (H : Hp) (Q : VK) => ∃ i, xs = [.int i] ∧ Q (.int (if i < 0 then -i else i)) H) [u] H Q := by
  intro u H Q ⟨F, d, r, sm, hx, hf, k⟩
  unfold fAbs at hf
  split at hf
  · cases hf; have e := hx.sc rfl; subst e; exact ⟨_, rfl, k _ (.int _)⟩
  · cases hf
theorem c_int : ∀ u H Q, rF1 fInt u H Q → (fun (xs : List V) (H : Hp) (Q : VK) => (∃ i, xs = [.int i] ∧ Q (.int i) H) ∨ ∃ k, xs = [.bl k] ∧ Q (.int (if k then 1 else 0)) H) [u] H Q := by
  intro u H Q ⟨F, d, r, sm, hx, hf, k⟩
  unfold fInt at hf
  split at hf
  · cases hf; have e := hx.sc rfl; subst e; exact .inl ⟨_, rfl, k _ (.int _)⟩
  · cases hf; have e := hx.sc rfl; subst e; exact .inr ⟨_, rfl, k _ (.int _)⟩
  · cases hf
theorem Vw.ints {ns : List Int} {xs : List PyData} (sm : Same F H) (h : Vw F H u (.list xs)) (e : intsOf xs = some ns) : ∃ p, u = .ref p ∧ H p = some (.lst (ns.map V.int)) := by
  obtain ⟨p, vs, rfl, hp, ra⟩ := h.list sm
  have := intsOf_eq e
  subst this
  rw [ra.ints] at hp
  exact ⟨p, rfl, hp⟩
theorem Vw.strs {ns : List (List Nat)} {xs : List PyData} (sm : Same F H) (h : Vw F H u (.list xs)) (e : strsOf xs = some ns) : ∃ p, u = .ref p ∧ H p = some (.lst ((ns.map mkS).map V.str)) := by
  obtain ⟨p, vs, rfl, hp, ra⟩ := h.list sm
  have := strsOf_eq e
  subst this
  rw [txs_map] at ra
  rw [ra.strs] at hp
  exact ⟨p, rfl, hp⟩
theorem c_sum : ∀ u H Q, rF1 fSum u H Q → rSum X.K [u] H Q := by
  intro u H Q ⟨F, d, r, sm, hx, hf, k⟩
  unfold fSum at hf
  split at hf
  · obtain ⟨ns, e, rfl⟩ := Option.map_eq_some_iff.mp hf
    obtain ⟨p, rfl, hp⟩ := hx.ints sm e
    exact ⟨p, ns, rfl, SqL.of hp, k _ (.int _)⟩
  · cases hf
theorem c_max : ∀ u H Q, rF1 fMax u H Q → rMax X.K [u] H Q := by
  intro u H Q ⟨F, d, r, sm, hx, hf, k⟩
  unfold fMax at hf
  split at hf
  · split at hf
    · rename_i n ns e
      cases hf
      obtain ⟨p, rfl, hp⟩ := hx.ints sm e
      refine ⟨p, n :: ns, rfl, SqL.of hp, by simp, fun m hm hle => ?_⟩
      have e2 : m = maxL n ns := by
        have h1 := hle (maxL n ns) (by rcases maxL_mem ns n with z | z <;> simp [z])
        have h2 : m ≤ maxL n ns := by
          rcases List.mem_cons.mp hm with rfl | hm
          · exact (maxL_ge ns m).1
          · exact (maxL_ge ns n).2 m hm
        omega
      rw [e2]
      exact k _ (.int _)
    · cases hf
  · cases hf
theorem c_min : ∀ u H Q, rF1 fMin u H Q → rMin X.K [u] H Q := by
  intro u H Q ⟨F, d, r, sm, hx, hf, k⟩
  unfold fMin at hf
  split at hf
  · split at hf
    · rename_i n ns e
      cases hf
      obtain ⟨p, rfl, hp⟩ := hx.ints sm e
      refine ⟨p, n :: ns, rfl, SqL.of hp, by simp, fun m hm hle => ?_⟩
      have e2 : m = minL n ns := by
        have h1 := hle (minL n ns) (by rcases minL_mem ns n with z | z <;> simp [z])
        have h2 : minL n ns ≤ m := by
          rcases List.mem_cons.mp hm with rfl | hm
          · exact (minL_le ns m).1
          · exact (minL_le ns n).2 m hm
        omega
      rw [e2]
      exact k _ (.int _)
    · cases hf
  · cases hf
theorem c_all : ∀ u H Q, rF1 fAll u H Q → rAll X.K [u] H Q := by
  intro u H Q ⟨F, d, r, sm, hx, hf, k⟩
  unfold fAll at hf
  split at hf
  · obtain ⟨ns, e, rfl⟩ := Option.map_eq_some_iff.mp hf
    obtain ⟨p, vs, rfl, hp, ra⟩ := hx.list sm
    have := blsOf_eq e
    subst this
    rw [ra.bls] at hp
    exact ⟨p, ns, rfl, SqL.of hp, k _ (.bl _)⟩
  · cases hf
/-- list(x): x a list, a tuple, a text -/
def rListA : List V → Hp → VK → Prop := fun us H Q => ∃ u, us = [u] ∧ rF1 fList u H Q
theorem itemsOf_vals {x : Str} {acc : Array Value} (h : ItemsOf (SignAt x) acc x.cps.size) : Vals ((sL x).map fun c => V.str (mkS [c])) acc.toList := by
  have key : ∀ (l : List Nat) (k : Nat) (us : List Value), us.length = l.length → (∀ i v, us[i]? = some v → SignAt x (k + i) v) → (∀ i, i < l.length → x.cps[k + i]? = l[i]?) → Vals (l.map fun c => V.str (mkS [c])) us := by
    intro l
    induction l with
    | nil => intro k us h1 _ _; cases us with
      | nil => exact .nil
      | cons _ _ => cases h1
    | cons c l ih =>
      intro k us h1 h2 h3
      cases us with
      | nil => cases h1
      | cons v us =>
        refine .cons ?_ (ih (k + 1) us (by simpa using h1) (fun i w e => ?_) fun i hi => ?_)
        · have z : SignAt x k v := h2 0 v rfl
          have e0 : x.cps[k]? = some c := by have := h3 0 (by simp); simpa using this
          obtain ⟨c', t, e1, rfl⟩ := z
          rw [e0] at e1; cases e1
          exact ⟨_, rfl⟩
        · have := h2 (i + 1) w (by simpa using e)
          rwa [show k + (i + 1) = k + 1 + i by omega] at this
        · have := h3 (i + 1) (by simpa using hi)
          rwa [show k + (i + 1) = k + 1 + i by omega] at this
  exact key (sL x) 0 acc.toList (by rw [Array.length_toList, h.1]; unfold sL; rw [Array.length_toList]) (fun i v e => by
    rw [Nat.zero_add]
    exact h.2 i v (by simpa using e)) fun i hi => by
      rw [Nat.zero_add]
      unfold sL
      simp
theorem call_listA (hc : X.calm = true) : CallR X (.type "list") rListA := by
  intro pins s σ H us vs Q I r h
  obtain ⟨u, rfl, F, d, r0, sm, hx, hf, k⟩ := h
  unfold fList at hf
  split at hf
  · cases hf
    obtain ⟨p, vs', rfl, hp, ra⟩ := hx.list sm
    exact call_list_of pins s σ H _ vs Q I r ⟨p, vs', rfl, .inl (SqL.of hp), fun l n => k _ l ra n⟩
  · cases hf
    obtain ⟨p, vs', rfl, hp, ra⟩ := hx.tup
    exact call_list_of pins s σ H _ vs Q I r ⟨p, vs', rfl, .inr (SqT.of (sm _ _ hp)), fun l n => k _ l ra n⟩
  · split at hf
    · rename_i z c
      cases hf
      have e := hx.sc rfl
      subst e
      obtain ⟨w', rfl, rw'⟩ := vals1 r
      obtain ⟨t, rfl⟩ := rw'
      have hz : z.cps.size ≤ sizeLine := by
        have := len_sL z
        have h2 : z.length ≤ sizeLine := by rw [this]; exact lim c
        exact h2
      refine PySem.call_list_str (I.ok.hd hc) z t (fun h' tk acc' c' hk ho hi => ?_) hz
      have rv := itemsOf_vals hi
      have hn := I.hok.fresh (Nat.le_refl s.heap.objs.size)
      have J : Inv X pins σ (upd H s.heap.objs.size (.lst ((sL z).map fun c => V.str (mkS [c])))) { s with heap := h', toks := tk } := I.laid hk (Nat.le_refl _) ⟨by rw [List.length_map]; exact lim c, acc'.toList, c', rv, by simpa using ho⟩
      refine ⟨.ref s.heap.objs.size, _, J, rfl, k _ _ ?_ hn⟩
      have : ∀ l : List Nat, RpA F (l.map fun c => V.str (mkS [c])) (l.map fun c => tx [c]) := fun l => by
        induction l with
        | nil => exact .nil
        | cons c l ih => exact .cons (.str _) ih
      exact this _
    · cases hf
  · cases hf
theorem c_tuple : ∀ u H Q, rF1 fTuple u H Q → (fun (xs : List V) (H : Hp) (Q : VK) => ∃ p ys, xs = [.ref p] ∧ ((SqL X.K H p ys ∧ ∀ l, H l = none → Q (.ref l) (upd H l (.tup ys))) ∨ (SqT X.K H p ys ∧ Q (.ref p) H))) [u] H Q := by
  intro u H Q ⟨F, d, r, sm, hx, hf, k⟩
  unfold fTuple at hf
  split at hf
  · cases hf
    obtain ⟨p, vs, rfl, hp, ra⟩ := hx.list sm
    exact ⟨p, vs, rfl, .inl ⟨SqL.of hp, fun l n => k _ l ra n⟩⟩
  · cases hf
theorem c_min2 : ∀ us H Q, rFN fMin2 us H Q → (fun (xs : List V) (H : Hp) (Q : VK) => ∃ i j, xs = [.int i, .int j] ∧ Q (.int (if j < i then j else i)) H) us H Q := by
  intro us H Q ⟨F, xs, r, sm, ra, hf, k⟩
  unfold fMin2 at hf
  split at hf
  · cases hf
    match us, ra with
    | _, .cons h1 (.cons h2 .nil) => cases h1; cases h2; exact ⟨_, _, rfl, k _ (.int _)⟩
  · cases hf
theorem c_max2 : ∀ us H Q, rFN fMax2 us H Q → (fun (xs : List V) (H : Hp) (Q : VK) => ∃ i j, xs = [.int i, .int j] ∧ Q (.int (if j > i then j else i)) H) us H Q := by
  intro us H Q ⟨F, xs, r, sm, ra, hf, k⟩
  unfold fMax2 at hf
  split at hf
  · cases hf
    match us, ra with
    | _, .cons h1 (.cons h2 .nil) => cases h1; cases h2; exact ⟨_, _, rfl, k _ (.int _)⟩
  · cases hf
/-- isinstance(e, T) -/
def rIsiT1 (T : String) : List V → Hp → VK → Prop := fun us H Q => ∃ u, us = [u, .ty T] ∧ rF1 (fIsi T) u H Q
theorem isiB_kit {T : String} {x : PyData} {b : Bool} (h : isiB T x = some b) (nd : tyN x ≠ "dict") : kitB (tyN x) T = some b := by
  unfold isiB at h
  split at h <;> first
    | (cases h; cases x <;> first | (exact absurd rfl nd) | (dsimp only [tyN]; decide +kernel))
    | cases h
theorem ty_of {d : PyData} (sm : Same F H) (h : Vw F H u d) : TyX X.K H u (.type (tyN d)) := by
  have h' := h.rp sm
  cases h' with
  | non => exact .base .non
  | bl b => exact .base (.bl b)
  | int b => exact .base (.int b)
  | str b => exact .base (.str b)
  | lst e _ => exact .base (.lst e)
  | tup e _ => exact .base (.tup e)
theorem call_isi1 {T : String} : CallR X (.builtin "isinstance") (rIsiT1 T) := by
  intro pins s σ H us vs Q I r h
  obtain ⟨u, rfl, F, d, r0, sm, hx, hf, k⟩ := h
  have go : ∀ b, isiB T d = some b → tyN d ≠ "dict" → r0 = .it (.bool b) → _ := fun b e nd er => by
    subst er
    exact call_isi pins s σ H _ vs Q I r ⟨u, .ty T, _, _, b, rfl, .ty T, ty_of sm hx, kit_ty (isiB_kit e nd), k _ (.bl _)⟩
  unfold fIsi at hf
  split at hf
  · cases hf
  · rename_i nd
    obtain ⟨b, e, rfl⟩ := Option.map_eq_some_iff.mp hf
    refine go b e ?_ rfl
    cases d <;> first | (dsimp only [tyN]; decide) | exact (nd _ rfl).elim
variable {e : Expr} {w : WC} {pos : Pos} {σ : L2.St}
theorem e_isi {T : String} {ma : ME} {p p2 : Pos} {x : Str} (hx : x = Str.ofString "isinstance") {y : Str} (hg : Gl X x) (hm : X.mg x = none) (hg2 : Gl X y) (hm2 : X.mg y = none) (hv2 : bootBuiltins y = some (.type T)) (ha : PE X e (tE X.K w ma))
    (hn2 : y ≠ "__name__" := by decide) (hd2 : (y == ("__debug__" : Str)) = false := by decide) (hs : starEach [e, .Name y p2] X.env = (false, eval e X.env) :: starEach [.Name y p2] X.env := by rfl) (hs2 : starEach [.Name y p2] X.env = (false, eval (.Name y p2) X.env) :: starEach [] X.env := by rfl) (hpl : (backTo pos (starEach [.Name y p2] X.env)).any (·.1) = false := by rfl) :
    PE X (.Call (.Name x p) [e, .Name y p2] [] pos) (tE X.K w (mOp1 (fIsi T) ma)) := by
  subst hx
  refine wkE (pe_callB (call_isi1 (T := T)) hg hm (by decide +kernel) (pa_cons ha (pa_cons (pe_bltn (v := .ty T) hg2 hm2 hv2 rfl hn2 hd2) pa_nil hs2) hs) (by decide) (by decide) hs hpl) fun σ H Q h => ?_
  have h1 := op1_of h
  obtain ⟨fr, F, ρ, S, h1⟩ := h1
  exact ⟨fr, F, ρ, S, h1.imp fun _ _ _ H1 u _ _ _ q => ⟨u, rfl, q⟩⟩
end
end Pv

/-! What is walked: data, ranges, enumerate and zip of texts and lists. -/
namespace Pv
open PySem PySem.Spec PyProof.Rows L2
/-! ### enumerate(text) -/
def IteS (x : Str) : It := ⟨fun i _ => i < x.cps.size, fun i H v H' => ∃ T c, v = .ref T ∧ H T = none ∧ H' = upd H T (.tup [.int (i : Nat), .str ⟨#[c]⟩]) ∧ x.cps[i]? = some c, fun i _ => x.cps.size ≤ i⟩
theorem turn_enumS {P : Program} {w : World} {K : PySem.W.Frag} {elts : List Expr} {kk : Nat} {tpos : Pos} (x : Str) (t : Tok) (e it : Addr) :
    Turn P w K (.Tuple elts kk tpos) (IteS x) [e, it] e (fun i h => (∃ old, IsEnum h e it ((i : Nat) : Int) old) ∧ h.IsStrIter it (strIterType x) x t i ∧ e ≠ it ∧ i ≤ x.cps.size) where
  mem := by simp
  obj := fun i h st b hb => by
    obtain ⟨⟨old, he⟩, ⟨o, ho, hc, hd⟩, _⟩ := st
    have e' : b = e ∨ b = it := by simpa using hb
    rcases e' with z | z
    · rw [z]; exact ⟨_, he, fun v q => nomatch q⟩
    · rw [z]; exact ⟨o, ho, fun v q => by rw [hd] at q; cases q⟩
  keep := fun i h h' st k => let ⟨⟨old, he⟩, ⟨o, ho, r⟩, hne, hi⟩ := st; ⟨⟨old, k e (by simp) _ he⟩, ⟨o, k it (by simp) o ho, r⟩, hne, hi⟩
  item := by
    intro X hP hw hK hc i pins s σ H E I hf st hg
    subst hP hw hK
    obtain ⟨⟨old, he⟩, hit, hne, hi⟩ := st
    have hlt : i < x.cps.size := hg
    have hel : e < s.heap.objs.size := Heap.lt_size he
    have hil : it < s.heap.objs.size := by obtain ⟨_, q, _⟩ := hit; exact Heap.lt_size q
    have hh : X.A.in1.handled = none := I.ok.hd hc
    refine wpAny_pyNext_enum_itemD (Draws.text hh it x t) he hit hlt hne (by simpa using hne) fun v h' tk hv ho hit' hT hsz hk => ?_
    obtain ⟨c, u, ec, rfl⟩ := hv
    refine ⟨_, rfl, wpAny_letOwnedTupleGo_enum (s := { s with heap := h', toks := tk + 1 }) ho fun h'' he' sb => ?_⟩
    have hT2 : h''.get? s.heap.objs.size = some { cls := .type "tuple", data := .seq #[.int i tk, .str ⟨#[c]⟩ u] } := (sb.2 _ (Nat.ne_of_gt hel)).trans hT
    have new : ObjOk X.prog X.w (upd H s.heap.objs.size (.tup [.int (i : Nat), .str ⟨#[c]⟩])) h'' s.heap.objs.size (.tup [.int (i : Nat), .str ⟨#[c]⟩]) :=
      ⟨by show 2 ≤ sizeLine; decide, [.int i tk, .str ⟨#[c]⟩ u], .cons ⟨_, rfl⟩ (.cons ⟨_, rfl⟩ .nil), ⟨_, hT2, rfl, _, rfl⟩⟩
    have I1 : Inv X pins σ (upd H s.heap.objs.size (.tup [.int (i : Nat), .str ⟨#[c]⟩])) { s with heap := h'', toks := tk + 1 } :=
      I.turnedNew (ch := [e, it]) (fun b ob hb q => (sb.2 b (fun z => hb (by simp [z]))).trans (hk b ob (fun z => hb (by simp [z])) (fun z => hb (by simp [z])) q)) hf (Nat.le_refl _) new
    refine ⟨.ref s.heap.objs.size, _, I1, rfl, ⟨_, c, rfl, I.hok.fresh (Nat.le_refl _), rfl, ec⟩, ⟨⟨.str ⟨#[c]⟩ u, ?_⟩, ?_, hne, hlt⟩, fun b hb => ?_⟩
    · have e1 : ((i + 1 : Nat) : Int) = (i : Int) + 1 := by omega
      rw [e1]; exact he'
    · obtain ⟨o, ho', r⟩ := hit'
      exact ⟨o, (sb.2 it (Ne.symm hne)).trans ho', r⟩
    · have hb' : b < s.heap.objs.size := by
        have e' : b = e ∨ b = it := by simpa using hb
        rcases e' with z | z
        · rw [z]; exact hel
        · rw [z]; exact hil
      rw [upd_ne (Nat.ne_of_lt hb')]
      exact (hf b hb).1
  done := by
    intro X hP hw hK hc i pins s σ H E I hf st hg
    subst hP hw hK
    obtain ⟨⟨old, he⟩, hit, hne, hi⟩ := st
    have hg' : x.cps.size ≤ i := hg
    have ei : i = x.cps.size := Nat.le_antisymm hi hg'
    subst ei
    have hh : X.A.in1.handled = none := I.ok.hd hc
    obtain ⟨f0, f1, f2, f3, f4, f5⟩ := hf it (by simp)
    exact wpAny_pyNext_enum_endD (Draws.text hh it x t) he hit fun h' eb => ⟨rfl, I.turned (t' := s.toks) (fun b o hb q => eb b o hb q) f0 f1 f3 f4 f5⟩
  self := fun A i s Q E st h => let ⟨⟨_, he⟩, _⟩ := st; wpAny_pyIter_enum he h
/-! ### zip(text, text) -/
def ItzS (x y : Str) : It := ⟨fun i _ => i < x.cps.size ∧ i < y.cps.size, fun i H v H' => ∃ T c d, v = .ref T ∧ H T = none ∧ H' = upd H T (.tup [.str ⟨#[c]⟩, .str ⟨#[d]⟩]) ∧ x.cps[i]? = some c ∧ y.cps[i]? = some d, fun i _ => x.cps.size ≤ i ∨ y.cps.size ≤ i⟩
theorem turn_zipS {P : Program} {w : World} {K : PySem.W.Frag} {elts : List Expr} {kk : Nat} {tpos : Pos} (x y : Str) (t t2 : Tok) {z TI TO i1 i2 : Addr} (D : ZipSep2 z TI TO i1 i2 [i1] [i2]) :
    Turn P w K (.Tuple elts kk tpos) (ItzS x y) [z, TI, TO, i1, i2] z (fun i h => IsZip h z TI TO .none ∧ IsTupOf2 h TI (.ref i1) (.ref i2) ∧ (∃ a b, IsTupOf2 h TO a b) ∧ h.IsStrIter i1 (strIterType x) x t i ∧ h.IsStrIter i2 (strIterType y) y t2 i ∧ i ≤ x.cps.size ∧ i ≤ y.cps.size) where
  mem := by simp
  obj := fun i h st c hc => by
    obtain ⟨hz, hTI, ⟨x, y, hTO⟩, ⟨o1, e1, _, d1⟩, ⟨o2, e2, _, d2⟩, _⟩ := st
    have e' : c = z ∨ c = TI ∨ c = TO ∨ c = i1 ∨ c = i2 := by simpa using hc
    rcases e' with q | q | q | q | q
    · rw [q]; exact ⟨_, hz, fun v q => nomatch q⟩
    · rw [q]; exact ⟨_, hTI, fun v q => nomatch q⟩
    · rw [q]; exact ⟨_, hTO, fun v q => nomatch q⟩
    · rw [q]; exact ⟨o1, e1, fun v q => by rw [d1] at q; cases q⟩
    · rw [q]; exact ⟨o2, e2, fun v q => by rw [d2] at q; cases q⟩
  keep := fun i h h' st k => by
    obtain ⟨hz, hTI, ⟨x, y, hTO⟩, ⟨o1, e1, r1⟩, ⟨o2, e2, r2⟩, l⟩ := st
    exact ⟨k z (by simp) _ hz, k TI (by simp) _ hTI, ⟨x, y, k TO (by simp) _ hTO⟩, ⟨o1, k i1 (by simp) _ e1, r1⟩, ⟨o2, k i2 (by simp) _ e2, r2⟩, l⟩
  item := by
    intro X hP hw hK hc i pins s σ H E I hf st hg
    subst hP hw hK
    obtain ⟨hz, hTI, ⟨x0, y0, hTO⟩, h1, h2, l1, l2⟩ := st
    obtain ⟨hx, hy⟩ : i < x.cps.size ∧ i < y.cps.size := hg
    have hh : X.A.in1.handled = none := I.ok.hd hc
    have hzl : z < s.heap.objs.size := Heap.lt_size hz
    have lTI : TI < s.heap.objs.size := Heap.lt_size hTI
    have lTO : TO < s.heap.objs.size := Heap.lt_size hTO
    have li1 : i1 < s.heap.objs.size := by obtain ⟨_, e1, _⟩ := h1; exact Heap.lt_size e1
    have li2 : i2 < s.heap.objs.size := by obtain ⟨_, e1, _⟩ := h2; exact Heap.lt_size e1
    have hTIi2 := D.TIi2
    refine wpAny_pyNext_zipD2_item D (Draws.text hh i1 x t) (Draws.text hh i2 y t2) hz hTI hTO h1 h2 hx hy fun u u2 h' tk hu hu2 z' TO' h1' h2' hT hsz hk => ?_
    obtain ⟨c, t3, ec, rfl⟩ := hu
    obtain ⟨d, t4, ed, rfl⟩ := hu2
    refine ⟨_, rfl, wpAny_letOwnedTupleGo_zip (s := { s with heap := h', toks := tk }) z' fun h'' z'' sb => ?_⟩
    have hT2 : h''.get? s.heap.objs.size = some { cls := .type "tuple", data := .seq #[.str ⟨#[c]⟩ t3, .str ⟨#[d]⟩ t4] } := (sb.2 _ (Nat.ne_of_gt hzl)).trans hT
    have new : ObjOk X.prog X.w (upd H s.heap.objs.size (.tup [.str ⟨#[c]⟩, .str ⟨#[d]⟩])) h'' s.heap.objs.size (.tup [.str ⟨#[c]⟩, .str ⟨#[d]⟩]) :=
      ⟨by show 2 ≤ sizeLine; decide, [.str ⟨#[c]⟩ t3, .str ⟨#[d]⟩ t4], .cons ⟨_, rfl⟩ (.cons ⟨_, rfl⟩ .nil), ⟨_, hT2, rfl, _, rfl⟩⟩
    have I1 : Inv X pins σ (upd H s.heap.objs.size (.tup [.str ⟨#[c]⟩, .str ⟨#[d]⟩])) { s with heap := h'', toks := tk } :=
      I.turnedNew (t' := tk) (ch := [z, TI, TO, i1, i2]) (fun c o hb q => (sb.2 c (fun q' => hb (by simp [q']))).trans (hk c o (fun q' => hb (by simp [q'])) (fun q' => hb (by simp [q'])) (fun q' => hb (by simp [q'])) (fun q' => hb (by simp [q'])) q)) hf (Nat.le_refl _) new
    have nz : ∀ b, b ∈ [i1] → b ≠ z := fun b hb e => D.zf1 (by rw [← e]; exact hb)
    have nz2 : ∀ b, b ∈ [i2] → b ≠ z := fun b hb e => D.zf2 (by rw [← e]; exact hb)
    refine ⟨.ref s.heap.objs.size, _, I1, rfl, ⟨_, c, d, rfl, I.hok.fresh (Nat.le_refl _), rfl, ec, ed⟩, ⟨z'', ?_, ⟨_, _, (sb.2 _ D.TOz).trans TO'⟩, ?_, ?_, hx, hy⟩, fun c hcm => ?_⟩
    · exact (sb.2 _ D.TIz).trans (hk _ _ D.TIz D.TITO D.TIi1 D.TIi2 hTI)
    · obtain ⟨o, e1, r⟩ := h1'; exact ⟨o, (sb.2 _ (nz i1 (by simp))).trans e1, r⟩
    · obtain ⟨o, e1, r⟩ := h2'; exact ⟨o, (sb.2 _ (nz2 i2 (by simp))).trans e1, r⟩
    · have hlt : c < s.heap.objs.size := by
        have e' : c = z ∨ c = TI ∨ c = TO ∨ c = i1 ∨ c = i2 := by simpa using hcm
        rcases e' with q | q | q | q | q
        · rw [q]; exact hzl
        · rw [q]; exact lTI
        · rw [q]; exact lTO
        · rw [q]; exact li1
        · rw [q]; exact li2
      rw [upd_ne (Nat.ne_of_lt hlt)]
      exact (hf c hcm).1
  done := by
    intro X hP hw hK hc i pins s σ H E I hf st hg
    subst hP hw hK
    obtain ⟨hz, hTI, ⟨x0, y0, hTO⟩, h1, h2, l1, l2⟩ := st
    have hend : x.cps.size ≤ i ∨ y.cps.size ≤ i := hg
    have hh : X.A.in1.handled = none := I.ok.hd hc
    exact wpAny_pyNext_zipD2_end D (Draws.text hh i1 x t) (Draws.text hh i2 y t2) hz hTI hTO h1 h2 l1 l2 (hend.imp (fun q => Nat.le_antisymm l1 q) fun q => Nat.le_antisymm l2 q) fun h' tk hk => ⟨rfl, I.turnedL (t' := tk) (ch := [z, TI, TO, i1, i2]) (fun c o hb q =>
      hk c o (fun q' => hb (by simp [q'])) (fun q' => hb (by simp [q'])) (fun q' => hb (by simp [q'])) (fun q' => hb (by simp [q'])) q) hf⟩
  self := fun A i s Q E st h => wpAny_pyIter_zip st.1 h
section
variable {X : Cx} {tg e e2 : Expr} {pos : Pos} {w : WC} {K : PySem.W.Frag} {fr : Fr} {F : Hp} {σ : L2.St} {H : Hp} {ρ : Rho}
/-- enumerate(x), x a list or a text -/
theorem pi_enumA {ta : TA} {p tpos : Pos} {elts : List Expr} {kk : Nat} (hg : Gl X "enumerate") (hm : X.mg "enumerate" = none) (ha : PA X [e] ta) (hs : starEach [e] X.env = [(false, eval e X.env)] := by rfl) :
    PI X (.Tuple elts kk tpos) (.Call (.Name "enumerate" p) [e] [] pos) (fun σ H R => ta σ H fun vs H1 => (∃ a xs, vs = [.ref a] ∧ SqL X.K H1 a xs ∧ R (Ite X.K a) H1) ∨ ∃ x, vs = [.str x] ∧ R (IteS x) H1) := by
  refine ⟨fun pins s σ H R I h => ?_⟩
  refine Call_ (ld_blt I hg hm boot_enumerate (PyProof.Rows.callWith_type1 (thn (ha.run pos pins s σ H _ I h) fun us s1 ⟨vs, H1, I1, r1, q1⟩ => ?_) hs rfl))
  rcases q1 with ⟨a, xs, ex, hq, q⟩ | ⟨x, ex, q⟩
  · subst ex
    cases r1 with
    | cons r rr =>
      cases rr
      cases r
      obtain ⟨its, rv, p', hz⟩ := I1.list hq
      refine call_enumerate_list p'.isList fun h' he hit hsz hk => wpAny_pyIter_enum he ?_
      have I2 : Inv X pins σ H1 { s1 with heap := h' } := I1.kept (t' := s1.toks) hk
      refine ⟨s1.heap.objs.size + 1, [s1.heap.objs.size + 1, s1.heap.objs.size], _, _, H1, rfl, I2, turn_enum a (s1.heap.objs.size + 1) s1.heap.objs.size, ⟨⟨.none, he⟩, hit, Nat.succ_ne_self _⟩, fun b hb => ?_, q⟩
      have e' : b = s1.heap.objs.size + 1 ∨ b = s1.heap.objs.size := by simpa using hb
      have hle : s1.heap.objs.size ≤ b := by
        rcases e' with z | z
        · rw [z]; exact Nat.le_add_right _ _
        · rw [z]; exact Nat.le_refl _
      exact I1.fpOk hle (I1.hok.fresh hle)
  · subst ex
    cases r1 with
    | cons r rr =>
      cases rr
      obtain ⟨t, rfl⟩ := r
      refine call_enumerate_str fun h' he hit hsz hk => wpAny_pyIter_enum he ?_
      have I2 : Inv X pins σ H1 { s1 with heap := h' } := I1.kept (t' := s1.toks) hk
      refine ⟨s1.heap.objs.size + 1, [s1.heap.objs.size + 1, s1.heap.objs.size], _, _, H1, rfl, I2, turn_enumS x t (s1.heap.objs.size + 1) s1.heap.objs.size, ⟨⟨.none, he⟩, hit, Nat.succ_ne_self _, Nat.zero_le _⟩, fun b hb => ?_, q⟩
      have e' : b = s1.heap.objs.size + 1 ∨ b = s1.heap.objs.size := by simpa using hb
      have hle : s1.heap.objs.size ≤ b := by
        rcases e' with z | z
        · rw [z]; exact Nat.le_add_right _ _
        · rw [z]; exact Nat.le_refl _
      exact I1.fpOk hle (I1.hok.fresh hle)
/-- zip(x, y) of two texts -/
theorem pi_zipS {ta : TA} {p tpos : Pos} {elts : List Expr} {kk : Nat} (hg : Gl X "zip") (hm : X.mg "zip" = none) (ha : PA X [e, e2] ta)
    (hs : starEach [e, e2] X.env = (false, eval e X.env) :: starEach [e2] X.env := by rfl) (hpl : (backTo pos (starEach [e2] X.env)).any (·.1) = false := by rfl) :
    PI X (.Tuple elts kk tpos) (.Call (.Name "zip" p) [e, e2] [] pos) (fun σ H R => ta σ H fun vs H1 => ∃ x y, vs = [.str x, .str y] ∧ R (ItzS x y) H1) := by
  refine ⟨fun pins s σ H R I h => ?_⟩
  refine Call_ (ld_blt I hg hm PyProof.Rows.boot_zip (PyProof.Rows.callWith_type1 (thn (ha.run pos pins s σ H _ I h) fun us s1 ⟨vs, H1, I1, r1, q1⟩ => ?_) hs hpl))
  obtain ⟨x, y, ex, q⟩ := q1
  subst ex
  cases r1 with
  | cons r rr =>
    cases rr with
    | cons r' rr =>
      cases rr
      obtain ⟨t, rfl⟩ := r
      obtain ⟨t2, rfl⟩ := r'
      refine zip_begins2 (begins_text x t) (begins_text y t2) trivial trivial fun h' hz hTI hTO h1 h2 hsz hk => wpAny_pyIter_zip hz ?_
      have I2 : Inv X pins σ H1 { s1 with heap := h' } := I1.kept (t' := s1.toks) hk
      have D := zip_sep2 (N := s1.heap.objs.size) (fp1 := []) (fp2 := []) (by simp) (by simp)
      refine ⟨s1.heap.objs.size + 4, [s1.heap.objs.size + 4, s1.heap.objs.size + 2, s1.heap.objs.size + 3, s1.heap.objs.size, s1.heap.objs.size + 1], _, _, H1, rfl, I2, turn_zipS x y t t2 D, ⟨hz, hTI, ⟨_, _, hTO⟩, ⟨_, h1, rfl, rfl⟩, ⟨_, h2, rfl, rfl⟩, Nat.zero_le _, Nat.zero_le _⟩, fun c hcm => ?_, q⟩
      have e' : c = s1.heap.objs.size + 4 ∨ c = s1.heap.objs.size + 2 ∨ c = s1.heap.objs.size + 3 ∨ c = s1.heap.objs.size ∨ c = s1.heap.objs.size + 1 := by simpa using hcm
      have hle : s1.heap.objs.size ≤ c := by
        rcases e' with z | z | z | z | z
        · rw [z]; exact Nat.le_add_right _ _
        · rw [z]; exact Nat.le_add_right _ _
        · rw [z]; exact Nat.le_add_right _ _
        · rw [z]; exact Nat.le_refl _
        · rw [z]; exact Nat.le_add_right _ _
      exact I1.fpOk hle (I1.hok.fresh hle)
/-- a list, a tuple, a text -/
theorem pi_any {l : Expr} {tl : TE} (hl : PE X l tl) : PI X tg l (fun σ H R => tl σ H fun x H1 => (∃ a, x = .ref a ∧ (∃ xs, SqL X.K H1 a xs) ∧ R (Itl X.K a) H1) ∨ (∃ a, x = .ref a ∧ (∃ xs, SqT X.K H1 a xs) ∧ R (Itt X.K a) H1) ∨ ∃ z, x = .str z ∧ R (Its z) H1) := by
  refine ⟨fun pins s σ H R I h => ?_⟩
  refine thn (hl.run pins s σ H _ I h) fun v s1 ⟨x, H1, I1, r1, q1⟩ => ?_
  rcases q1 with ⟨a, e, ⟨xs, hq⟩, q⟩ | ⟨a, e, ⟨xs, hq⟩, q⟩ | ⟨z, e, q⟩
  · subst e
    cases r1
    obtain ⟨its, rv, p, hz⟩ := I1.list hq
    refine wpAny_pyIter_list p.isList ?_
    refine ⟨s1.heap.objs.size, [s1.heap.objs.size], _, _, H1, rfl, I1.kept (t' := s1.toks) fun b o e => Heap.get?_push_of_some _ e, turn_list a _, ⟨_, Heap.get?_push_size _ rfl, rfl, rfl⟩, fun b hb => ?_, q⟩
    have e : b = s1.heap.objs.size := by simpa using hb
    subst e
    exact I1.fpOk (Nat.le_refl _) (I1.hok.fresh (Nat.le_refl _))
  · subst e
    cases r1
    obtain ⟨its, rv, p, hz⟩ := I1.tuple hq
    refine wpAny_pyIter_tuple (show s1.heap.IsTuple a its.toArray from p) ?_
    refine ⟨s1.heap.objs.size, [s1.heap.objs.size], _, _, H1, rfl, I1.kept (t' := s1.toks) fun b o e => Heap.get?_push_of_some _ e, turn_tuple a _, ⟨_, Heap.get?_push_size _ rfl, rfl, rfl⟩, fun b hb => ?_, q⟩
    have e : b = s1.heap.objs.size := by simpa using hb
    subst e
    exact I1.fpOk (Nat.le_refl _) (I1.hok.fresh (Nat.le_refl _))
  · subst e
    obtain ⟨t, rfl⟩ := r1
    cases ha : z.cps.all (· < 128)
    · exact wpAny_pyIter_wide ha (pi_one (tk := s1.toks) I1 _ (turn_str _ z t "str_iterator" (.inr rfl)) ⟨_, Heap.get?_push_size _ rfl, rfl, rfl⟩ q)
    · exact wpAny_pyIter_ascii ha (pi_one (tk := s1.toks) I1 _ (turn_str _ z t "str_ascii_iterator" (.inl rfl)) ⟨_, Heap.get?_push_size _ rfl, rfl, rfl⟩ q)

/-! ### .. as plain data -/
def itemsOf : PyData → Option (List PyData)
  | .list xs => some xs
  | .tuple xs => some xs
  | .str z => some ((sL z).map fun c => tx [c])
  | _ => none
def mIter (me : ME) : MI := fun ρ => bd (mFrz me ρ) fun x ρ1 => (itemsOf x).map fun xs => .ok xs ρ1
def oneInt : List PyData → Option Int
  | [.int i] => some i
  | _ => none
def mRange1 (ms : MI) : MI := fun ρ => bd (ms ρ) fun xs ρ1 => match xs with
  | [.int n] => if n.natAbs ≤ 1000000 then some (.ok ((List.range n.toNat).map fun k => .int (k : Nat)) ρ1) else none
  | _ => none
def mRange2 (ms : MI) : MI := fun ρ => bd (ms ρ) fun xs ρ1 => match xs with
  | [.int a, .int b] => if a.natAbs ≤ 1000000 ∧ b.natAbs ≤ 1000000 then some (.ok ((List.range (b - a).toNat).map fun k => .int (a + (k : Nat))) ρ1) else none
  | _ => none
def enumD : Nat → List PyData → List PyData
  | _, [] => []
  | i, x :: xs => .tuple [.int i, x] :: enumD (i + 1) xs
def mEnum (ms : MI) : MI := fun ρ => bd (ms ρ) fun xs ρ1 => match xs with
  | [.list ys] => some (.ok (enumD 0 ys) ρ1)
  | [.str z] => some (.ok (enumD 0 ((sL z).map fun c => tx [c])) ρ1)
  | _ => none
def zipD : List Nat → List Nat → List PyData
  | c :: x, d :: y => .tuple [tx [c], tx [d]] :: zipD x y
  | _, _ => []
def mZip (ms : MI) : MI := fun ρ => bd (ms ρ) fun xs ρ1 => match xs with
  | [.str x, .str y] => some (.ok (zipD (sL x) (sL y)) ρ1)
  | _ => none
theorem Grow.refl {F H : Hp} (s : Same F H) : Grow F H F H := ⟨Same.refl _, Same.refl _, s, (fun _ _ _ n => n), fun _ _ h => h⟩
theorem Grow.tup {F H : Hp} {T : Addr} {vs : List V} (s : Same F H) (n : H T = none) : Grow F H (upd F T (.tup vs)) (upd H T (.tup vs)) := by
  have nF : F T = none := s.free n
  refine ⟨fun b u e => by rw [upd_ne (ne_of_none e nF)]; exact e, fun b u e => by rw [upd_ne (ne_of_none e n)]; exact e, fun b u e => ?_, fun b o e z => ?_, fun b ps e => ?_⟩
  · by_cases hb : b = T
    · subst hb; rw [upd_same] at e ⊢; exact e
    · rw [upd_ne hb] at e ⊢; exact s _ _ e
  · rw [upd_ne (ne_of_none e n)]; exact z
  · by_cases hb : b = T
    · subst hb; rw [upd_same] at e; cases e
    · rw [upd_ne hb] at e; exact e
theorem walks_list {a : Addr} {vs : List V} {ds : List PyData} (e : F a = some (.lst vs)) (r : RpA F vs ds) : Walks (Itl K a) F ds := by
  intro i F' H' s1 s2
  have eH : H' a = some (.lst vs) := s2 _ _ (s1 _ _ e)
  refine ⟨fun x ex => ?_, fun hl => ⟨vs, SqL.of eH, by rw [r.length]; exact hl⟩⟩
  obtain ⟨v, ev, rv⟩ := r.get ex
  refine ⟨⟨vs, v, SqL.of eH, ev⟩, fun y H2 ⟨e2, hy⟩ => ?_⟩
  subst e2
  have := hy vs (SqL.of eH)
  rw [ev] at this; cases this
  exact ⟨F', Grow.refl s2, Rp.mono s1 _ _ rv⟩
theorem walks_tup {a : Addr} {vs : List V} {ds : List PyData} (e : F a = some (.tup vs)) (r : RpA F vs ds) : Walks (Itt K a) F ds := by
  intro i F' H' s1 s2
  have eH : H' a = some (.tup vs) := s2 _ _ (s1 _ _ e)
  refine ⟨fun x ex => ?_, fun hl => ⟨vs, SqT.of eH, by rw [r.length]; exact hl⟩⟩
  obtain ⟨v, ev, rv⟩ := r.get ex
  refine ⟨⟨vs, v, SqT.of eH, ev⟩, fun y H2 ⟨e2, hy⟩ => ?_⟩
  subst e2
  have := hy vs (SqT.of eH)
  rw [ev] at this; cases this
  exact ⟨F', Grow.refl s2, Rp.mono s1 _ _ rv⟩
theorem sL_get (z : Str) (i : Nat) : (sL z)[i]? = z.cps[i]? := by unfold sL; simp
theorem sL_size (z : Str) : (sL z).length = z.cps.size := by unfold sL; simp
theorem walks_str {z : Str} : Walks (Its z) F ((sL z).map fun c => tx [c]) := by
  intro i F' H' s1 s2
  refine ⟨fun x ex => ?_, fun hl => by rw [List.length_map, sL_size] at hl; exact hl⟩
  rw [List.getElem?_map, sL_get] at ex
  obtain ⟨c, ec, rfl⟩ := Option.map_eq_some_iff.mp ex
  have hi : i < z.cps.size := by
    rw [← sL_size]; rw [← sL_get] at ec; exact get_of_lt ec
  refine ⟨hi, fun y H2 ⟨e2, c', ec', ey⟩ => ?_⟩
  subst e2
  rw [ec] at ec'; cases ec'
  subst ey
  exact ⟨F', Grow.refl s2, .str _⟩
theorem walks_range {lo : Int} {n : Nat} : Walks (Itr lo n) F ((List.range n).map fun k => .int (lo + (k : Nat))) := by
  intro i F' H' s1 s2
  refine ⟨fun x ex => ?_, fun hl => by rw [List.length_map, List.length_range] at hl; exact hl⟩
  rw [List.getElem?_map] at ex
  obtain ⟨k, ek, rfl⟩ := Option.map_eq_some_iff.mp ex
  obtain ⟨h1, h2⟩ := List.getElem?_eq_some_iff.mp ek
  rw [List.getElem_range] at h2
  subst h2
  refine ⟨by show i < n; simpa using h1, fun y H2 ⟨e2, ey⟩ => ?_⟩
  subst e2 ey
  exact ⟨F', Grow.refl s2, .int _⟩
theorem enumD_get : ∀ (ys : List PyData) (k i : Nat), (enumD k ys)[i]? = (ys[i]?).map fun y => .tuple [.int ((k + i : Nat) : Int), y]
  | [], k, i => by simp [enumD]
  | y :: ys, k, 0 => by simp [enumD]
  | y :: ys, k, i + 1 => by
    show (enumD (k + 1) ys)[i]? = _
    rw [enumD_get ys (k + 1) i, show k + 1 + i = k + (i + 1) by omega]
    simp
theorem enumD_length : ∀ (ys : List PyData) (k : Nat), (enumD k ys).length = ys.length
  | [], k => rfl
  | y :: ys, k => by show (enumD (k + 1) ys).length + 1 = _; rw [enumD_length ys]; rfl
theorem walks_enum {a : Addr} {vs : List V} {ds : List PyData} (e : F a = some (.lst vs)) (r : RpA F vs ds) : Walks (Ite K a) F (enumD 0 ds) := by
  intro i F' H' s1 s2
  have eH : H' a = some (.lst vs) := s2 _ _ (s1 _ _ e)
  refine ⟨fun x ex => ?_, fun hl => ⟨vs, SqL.of eH, by rw [r.length]; rw [enumD_length] at hl; exact hl⟩⟩
  rw [enumD_get] at ex
  obtain ⟨y, ey, rfl⟩ := Option.map_eq_some_iff.mp ex
  obtain ⟨v, ev, rv⟩ := r.get ey
  refine ⟨⟨vs, v, SqL.of eH, ev⟩, fun y' H2 ⟨T, x', e2, n, e3, hy⟩ => ?_⟩
  subst e2 e3
  have := hy vs (SqL.of eH)
  rw [ev] at this; cases this
  have g := Grow.tup (vs := [.int (i : Nat), v]) s2 n
  refine ⟨_, g, .tup upd_same (.cons ?_ (.cons (Rp.mono (s1.trans g.1) _ _ rv) .nil))⟩
  rw [Nat.zero_add]
  exact .int _
theorem walks_enumS {z : Str} : Walks (IteS z) F (enumD 0 ((sL z).map fun c => tx [c])) := by
  intro i F' H' s1 s2
  refine ⟨fun x ex => ?_, fun hl => by rw [enumD_length, List.length_map, sL_size] at hl; exact hl⟩
  rw [enumD_get, List.getElem?_map, sL_get] at ex
  obtain ⟨y, ey, rfl⟩ := Option.map_eq_some_iff.mp ex
  obtain ⟨c, ec, rfl⟩ := Option.map_eq_some_iff.mp ey
  have hi : i < z.cps.size := by
    rw [← sL_size]; rw [← sL_get] at ec; exact get_of_lt ec
  refine ⟨hi, fun y' H2 ⟨T, c', e2, n, e3, ec'⟩ => ?_⟩
  subst e2 e3
  rw [ec] at ec'; cases ec'
  have g := Grow.tup (vs := [.int (i : Nat), .str ⟨#[c]⟩]) s2 n
  refine ⟨_, g, .tup upd_same (.cons ?_ (.cons (.str _) .nil))⟩
  rw [Nat.zero_add]
  exact .int _
theorem zipD_get : ∀ (x y : List Nat) (i : Nat), (zipD x y)[i]? = match x[i]?, y[i]? with
    | some c, some d => some (.tuple [tx [c], tx [d]])
    | _, _ => none
  | [], y, i => by simp [zipD]
  | c :: x, [], i => by
    show ([] : List PyData)[i]? = _
    cases (c :: x)[i]? <;> simp
  | c :: x, d :: y, 0 => by simp [zipD]
  | c :: x, d :: y, i + 1 => by
    show (zipD x y)[i]? = _
    rw [zipD_get x y i]; simp
theorem zipD_length : ∀ (x y : List Nat), (zipD x y).length = min x.length y.length
  | [], y => by simp [zipD]
  | c :: x, [] => by simp [zipD]
  | c :: x, d :: y => by show (zipD x y).length + 1 = _; rw [zipD_length x y]; simp only [List.length_cons]; omega
theorem walks_zipS {x y : Str} : Walks (ItzS x y) F (zipD (sL x) (sL y)) := by
  intro i F' H' s1 s2
  refine ⟨fun z ex => ?_, fun hl => ?_⟩
  · rw [zipD_get, sL_get, sL_get] at ex
    split at ex
    · rename_i c d ec ed
      cases ex
      have hx : i < x.cps.size := by
        rw [← sL_size]; rw [← sL_get] at ec; exact get_of_lt ec
      have hy : i < y.cps.size := by
        rw [← sL_size]; rw [← sL_get] at ed; exact get_of_lt ed
      refine ⟨⟨hx, hy⟩, fun y' H2 ⟨T, c', d', e2, n, e3, ec', ed'⟩ => ?_⟩
      subst e2 e3
      rw [ec] at ec'; cases ec'
      rw [ed] at ed'; cases ed'
      have g := Grow.tup (vs := [.str ⟨#[c]⟩, .str ⟨#[d]⟩]) s2 n
      exact ⟨_, g, .tup upd_same (.cons (.str _) (.cons (.str _) .nil))⟩
    · cases ex
  · rw [zipD_length, sL_size, sL_size] at hl
    show x.cps.size ≤ i ∨ y.cps.size ≤ i
    omega
theorem i_any {me : ME} (h : PE X e (tE X.K w me)) : PI X tg e (tI X.K w (mIter me)) := by
  refine wkI (pi_any h) fun σ H R h => frzM (w := w) (bdM (rel := relX) h fun fr F ρ x H1 u S r h1 => ?_)
  match x, r, h1 with
  | .list xs, .lst e a, h1 => exact .inl ⟨_, rfl, ⟨_, SqL.of (S.sF _ _ e)⟩, h1 F H1 _ S (Same.refl _) (walks_list e a)⟩
  | .tuple xs, .tup e a, h1 => exact .inr (.inl ⟨_, rfl, ⟨_, SqT.of (S.sF _ _ e)⟩, h1 F H1 _ S (Same.refl _) (walks_tup e a)⟩)
  | .str z, .str _, h1 => exact .inr (.inr ⟨_, rfl, h1 F H1 _ S (Same.refl _) walks_str⟩)
theorem i_range1 {ms : MI} {p : Pos} (hg : Gl X "range") (hm : X.mg "range" = none) (ha : PA X [e] (tA X.K w ms)) (hs : starEach [e] X.env = [(false, eval e X.env)] := by rfl) : PI X tg (.Call (.Name "range" p) [e] [] pos) (tI X.K w (mRange1 ms)) := by
  refine wkI (pi_range1 hg hm ha hs) fun σ H R h => bdM (rel := relD) h fun fr F ρ xs H1 vs S r h1 => ?_
  match xs, vs, r, h1 with
  | [.int n], _, .cons (.int _) .nil, h1 =>
    have h2 : WPg X.K w relI R fr F σ (if n.natAbs ≤ 1000000 then some (.ok ((List.range n.toNat).map fun k => .int (k : Nat)) ρ) else none) := h1
    by_cases c : n.natAbs ≤ 1000000
    · rw [if_pos c] at h2
      refine ⟨n, rfl, by omega, by omega, h2 F H1 _ S (Same.refl _) ?_⟩
      have := walks_range (F := F) (lo := 0) (n := n.toNat)
      simpa using this
    · rw [if_neg c] at h2; exact h2.elim
theorem i_range2 {ms : MI} {p : Pos} (hg : Gl X "range") (hm : X.mg "range" = none) (ha : PA X [e, e2] (tA X.K w ms)) (hs : starEach [e, e2] X.env = [(false, eval e X.env), (false, eval e2 X.env)] := by rfl) (hs2 : starEach [e2] X.env = [(false, eval e2 X.env)] := by rfl) : PI X tg (.Call (.Name "range" p) [e, e2] [] pos) (tI X.K w (mRange2 ms)) := by
  refine wkI (pi_range2 hg hm ha hs hs2) fun σ H R h => bdM (rel := relD) h fun fr F ρ xs H1 vs S r h1 => ?_
  match xs, vs, r, h1 with
  | [.int a, .int b], _, .cons (.int _) (.cons (.int _) .nil), h1 =>
    have h2 : WPg X.K w relI R fr F σ (if a.natAbs ≤ 1000000 ∧ b.natAbs ≤ 1000000 then some (.ok ((List.range (b - a).toNat).map fun k => .int (a + (k : Nat))) ρ) else none) := h1
    by_cases c : a.natAbs ≤ 1000000 ∧ b.natAbs ≤ 1000000
    · rw [if_pos c] at h2
      exact ⟨a, b, rfl, by omega, h2 F H1 _ S (Same.refl _) walks_range⟩
    · rw [if_neg c] at h2; exact h2.elim
theorem i_enum {ms : MI} {p tpos : Pos} {elts : List Expr} {kk : Nat} (hg : Gl X "enumerate") (hm : X.mg "enumerate" = none) (ha : PA X [e] (tA X.K w ms)) (hs : starEach [e] X.env = [(false, eval e X.env)] := by rfl) :
    PI X (.Tuple elts kk tpos) (.Call (.Name "enumerate" p) [e] [] pos) (tI X.K w (mEnum ms)) := by
  refine wkI (pi_enumA hg hm ha hs) fun σ H R h => bdM (rel := relD) h fun fr F ρ xs H1 vs S r h1 => ?_
  match xs, vs, r, h1 with
  | [.list ys], _, .cons (.lst e a) .nil, h1 => exact .inl ⟨_, _, rfl, SqL.of (S.sF _ _ e), h1 F H1 _ S (Same.refl _) (walks_enum e a)⟩
  | [.str z], _, .cons (.str _) .nil, h1 => exact .inr ⟨z, rfl, h1 F H1 _ S (Same.refl _) walks_enumS⟩
theorem i_zip {ms : MI} {p tpos : Pos} {elts : List Expr} {kk : Nat} (hg : Gl X "zip") (hm : X.mg "zip" = none) (ha : PA X [e, e2] (tA X.K w ms))
    (hs : starEach [e, e2] X.env = (false, eval e X.env) :: starEach [e2] X.env := by rfl) (hpl : (backTo pos (starEach [e2] X.env)).any (·.1) = false := by rfl) :
    PI X (.Tuple elts kk tpos) (.Call (.Name "zip" p) [e, e2] [] pos) (tI X.K w (mZip ms)) := by
  refine wkI (pi_zipS hg hm ha hs hpl) fun σ H R h => bdM (rel := relD) h fun fr F ρ xs H1 vs S r h1 => ?_
  match xs, vs, r, h1 with
  | [.str x, .str y], _, .cons (.str _) (.cons (.str _) .nil), h1 => exact ⟨x, y, rfl, h1 F H1 _ S (Same.refl _) walks_zipS⟩
end
end Pv

/-! Calls of defs, methods of texts and lists, changed lists, dicts. -/
namespace Pv
open PySem PySem.Spec PyProof.Rows L2
section
variable {X : Cx} {tg e e2 o a b : Expr} {es : List Expr} {pos apos cpos : Pos} {w : WC} {K : PySem.W.Frag} {fr : Fr} {F : Hp} {σ : L2.St} {H : Hp} {ρ : Rho}
/-! ### calls -/
def ALen (ms : MAv) (n : Nat) : Prop := ∀ (as : List Av) (ρ0 r0 : Rho), ms ρ0 = some (.ok as r0) → as.length = n
theorem alen_nil : ALen mANil 0 := fun as ρ0 r0 h => by cases h; rfl
theorem alen_cons {br : Bool} {me : ME} {ms : MAv} {n : Nat} (h : ALen ms n) : ALen (mACons br me ms) (n + 1) := fun as ρ0 r0 q => by
  have q' : bd (mAv br me ρ0) (fun x ρ2 => bd (ms ρ2) fun xs ρ3 => some (.ok (x :: xs) ρ3)) = some (.ok as r0) := q
  cases e1 : mAv br me ρ0 with
  | none => rw [e1] at q'; cases q'
  | some r =>
    rw [e1] at q'
    cases r with
    | er _ _ => cases q'
    | ok x ρ2 =>
      have q2 : bd (ms ρ2) (fun xs ρ3 => some (.ok (x :: xs) ρ3)) = some (.ok as r0) := q'
      cases e2 : ms ρ2 with
      | none => rw [e2] at q2; cases q2
      | some r =>
        rw [e2] at q2
        cases r with
        | er _ _ => cases q2
        | ok xs ρ3 =>
          cases q2
          rw [List.length_cons, h _ _ _ e2]
theorem passAt0 {W : WX} : PassesAt CX0 X σ (WE W σ) := fun _ _ _ _ _ _ h => h.elim
theorem passAtX0 : PassesAt (L2.CX X.prog X.w) X σ (WE w0.W σ) := fun _ _ _ _ _ _ h => by
  obtain ⟨_, _, _, _, _, _, _, _, _, _, _, _, z⟩ := h
  exact z.elim
theorem e_call {CX : CXT} {k n : Nat} {f : Addr} {fd : FuncData} {ps : List Str} {m : MF} {ms : MAv} {x : Str} {p : Pos} (G : FnOk X.prog X.w X.K X.mg X.base CX k f fd ps (spF X.K w.XR n m)) (hr : Room k X.A) (hg : Gl X x) (hm : X.mg x = some (.ref f)) (hk : PySem.W.keepIn X.K (.ref f) = true) (hb : Binds X.K fd ps []) (hx : ∀ σ, PassesAt CX X σ (WE w.W σ))
    (ha : PA X (e :: es) (tM X.K w relAvs ms)) (hl : ALen ms n) (hdb : (x == ("__debug__" : Str)) = false := by decide) (he : starEach (e :: es) X.env = (false, eval e X.env) :: starEach es X.env := by rfl) (hpl : (backTo pos (starEach es X.env)).any (·.1) = false := by rfl) :
    PE X (.Call (.Name x p) (e :: es) [] pos) (tE X.K w (mCall m ms)) := wkE (pe_callS G hr hg hm hk hb hx ha hdb he hpl) fun _ _ _ h => call_of hl h
/-- a def that raises, where nothing may be raised -/
theorem fn_noEr {P : Program} {w : World} {mg : Str → Option Value} {base : Heap} {CX : CXT} {k n : Nat} {f : Addr} {fd : FuncData} {ps : List Str} {XR XR' : XRT} {m : MF} (G : FnOk P w K mg base CX k f fd ps (spF K XR n m)) (hn : n = ps.length) : FnOk P w K mg base CX k f fd ps (spF K XR' n (fun ρ => noEr (m ρ))) := by
  refine G.imp (fun vs H Q E h => ?_) 
  obtain ⟨hl, fr, F, ρ, hP, S, h⟩ := h
  refine ⟨hl, fr, F, ρ, hP, S, ?_⟩
  replace h : WPg K ⟨fun c d _ H' => E c d H', XR'⟩ EvRep Q fr F (vs.map some) (noEr (m ρ)) := h
  match e : m ρ with
  | none => rw [e] at h; exact h.elim
  | some (.ok v ρ') => rw [e] at h; exact h
  | some (.er x ρ') => rw [e] at h; exact h.elim

/-! ### methods of data, which stay -/
def mMth (T : String) (f : PyData → List PyData → Option Vr) (mo : ME) (ms : MI) : ME := fun ρ => bd (mo ρ) fun v ρ1 => match rd v ρ1 with
  | some x0 => if tyN x0 = T then bd (ms ρ1) fun xs ρ2 => match rd v ρ2 with
      | some x => (f x xs).map fun r => .ok (ofVr r) ρ2
      | none => none
    else none
  | none => none
def rFM (f : PyData → List PyData → Option Vr) : V → List V → Hp → VK → Prop := fun u us H Q => ∃ F x xs r, Same F H ∧ Vw F H u x ∧ RpA F us xs ∧ f x xs = some r ∧ WVr Q F H r
theorem tyV_of {u : V} {x : PyData} (sm : Same F H) (h : Vw F H u x) (ht : tyN x = "str" ∨ tyN x = "list") : tyV K (tyN x) u H := by
  rcases h with h | ⟨p, vs, xs, rfl, rfl, e, r⟩
  · cases h with
    | non => rcases ht with z | z <;> exact absurd z (by decide)
    | bl _ => rcases ht with z | z <;> exact absurd z (by dsimp only [tyN]; decide)
    | int _ => rcases ht with z | z <;> exact absurd z (by dsimp only [tyN]; decide)
    | tup _ _ => rcases ht with z | z <;> exact absurd z (by dsimp only [tyN]; decide)
    | str _ => exact rfl
    | lst e _ => exact .inl ⟨rfl, _, SqL.of (sm _ _ e)⟩
  · exact .inl ⟨rfl, _, SqL.of e⟩
theorem mth_of {T : String} {f : PyData → List PyData → Option Vr} {mo : ME} {ms : MI} {Q : VK} {r : V → List V → Hp → VK → Prop} (hT : T = "str" ∨ T = "list") (hr : ∀ u us H Q, rFM f u us H Q → r u us H Q) (h : tE K w (mMth T f mo ms) σ H Q) : tBM K T r (tE K w mo) (tA K w ms) σ H Q := by
  obtain ⟨fr, F, ρ, S, h⟩ := h
  refine ⟨fr, F, ρ, S, h.bd fun v1 ρ1 F1 H1 u1 S1 s1 r1 h1 => ?_⟩
  cases e1 : rd v1 ρ1 with
  | none => rw [e1] at h1; exact h1.elim
  | some x0 =>
    rw [e1] at h1
    have h2 : WPg K w EvRep Q fr F1 σ (if tyN x0 = T then bd (ms ρ1) fun xs ρ2 => match rd v1 ρ2 with
        | some x => (f x xs).map fun r => .ok (ofVr r) ρ2
        | none => none
      else none) := h1
    by_cases c : tyN x0 = T
    · rw [if_pos c] at h2
      have vw := rd_ok S1 r1 e1
      refine ⟨by rw [← c]; exact tyV_of S1.sF vw (by rw [c]; exact hT), ?_⟩
      obtain ⟨g, le, Sg, back⟩ := hold S1 r1
      have h2' := WPg.frame (g := g) h2 le S1.sA fun F' H' ρ' b a sm Sx q => (back F' H' ρ' Sx sm).2.2 _ _ q
      refine ⟨g, F1, ρ1, Sg, h2'.bd fun xs ρ2 F2 H2 us S2 s2 r2 h3 => ?_⟩
      obtain ⟨S2', r1', b2⟩ := back F2 H2 ρ2 S2 s2
      refine hr _ _ _ _ ?_
      cases e2 : rd v1 ρ2 with
      | none => rw [e2] at h3; exact h3.elim
      | some x =>
        rw [e2] at h3
        have h4 : WPg K w EvRep Q g F2 σ ((f x xs).map fun r => .ok (ofVr r) ρ2) := h3
        cases e3 : f x xs with
        | none => rw [e3] at h4; exact h4.elim
        | some r => rw [e3] at h4; exact ⟨F2, x, xs, r, S2.sF, rd_ok S2' r1' e2, r2, e3, WVr_of S2 h4⟩
    · rw [if_neg c] at h2; exact h2.elim
theorem e_mth {T id : String} {name : Str} {f : PyData → List PyData → Option Vr} {mo : ME} {ms : MI} {r : V → List V → Hp → VK → Prop} (hT : T = "str" ∨ T = "list") (pa : PlainAttrs T) (slot : Slot T name id) (hty : typeOf (.builtin id) = pure (.type "method_descriptor")) (hm : MtR X id r) (hr : ∀ u us H Q, rFM f u us H Q → r u us H Q)
    (ho : PE X o (tE X.K w mo)) (ha : PA X (e :: es) (tA X.K w ms))
    (hbase : attributeBase o name X.env (eval o X.env) = eval o X.env := by rfl)
    (hfew : ((backTo cpos (starEach (e :: es) X.env)).all (fun x => !x.1) && (backToKw cpos (keywordEach [] X.env)).all (fun x => x.1.isSome)
      && decide ((e :: es).length + ([] : List Keyword).length + (if ([] : List Keyword).isEmpty then 0 else 1) < 30)) = true := by rfl)
    (hline : (apos.endLine == cpos.line) = true := by rfl) (hs : starEach (e :: es) X.env = (false, eval e X.env) :: starEach es X.env := by rfl) (hplain : (backTo cpos (starEach es X.env)).any (·.1) = false := by rfl) :
    PE X (.Call (.Attribute o name apos) (e :: es) [] cpos) (tE X.K w (mMth T f mo ms)) := wkE (pe_bm pa slot hty hm ho ha hbase hfew hline hs hplain) fun _ _ _ h => mth_of hT hr h
theorem e_mth0 {T id : String} {name : Str} {f : PyData → List PyData → Option Vr} {mo : ME} {r : V → List V → Hp → VK → Prop} (hT : T = "str" ∨ T = "list") (pa : PlainAttrs T) (slot : Slot T name id) (hty : typeOf (.builtin id) = pure (.type "method_descriptor")) (hm : MtR X id r) (hr : ∀ u us H Q, rFM f u us H Q → r u us H Q)
    (ho : PE X o (tE X.K w mo)) (hbase : attributeBase o name X.env (eval o X.env) = eval o X.env := by rfl) (hline : (apos.endLine == cpos.line) = true := by rfl) :
    PE X (.Call (.Attribute o name apos) [] [] cpos) (tE X.K w (mMth T f mo mNil)) := wkE (pe_bm0 pa slot hty hm ho hbase hline) fun σ H Q h => by
  obtain ⟨fr, F, ρ, S, h2⟩ := mth_of hT hr h
  refine ⟨fr, F, ρ, S, h2.imp fun _ _ _ H1 u _ _ _ q => ⟨q.1, ?_⟩⟩
  obtain ⟨fr, F, ρ, S, h3⟩ := q.2
  exact h3 F H1 [] S (Same.refl _) .nil
/-- "".join(list of texts) -/
def fJoin (x : PyData) (xs : List PyData) : Option Vr := match x, xs with
  | .str a, [.list ys] => match sL a with
    | [] => match strsOf ys with
      | some ps => if ps.length ≤ 1000000 ∧ ps.flatten.length ≤ 1000000 then some (.it (tx ps.flatten)) else none
      | none => none
    | _ => none
  | _, _ => none
theorem join_flat : ∀ ps : List (List Nat), TL.joinL [] ps = ps.flatten
  | [] => rfl
  | [p] => by simp [TL.joinL]
  | p :: q :: r => by
    show p ++ ([] ++ TL.joinL [] (q :: r)) = _
    rw [join_flat (q :: r)]; simp
theorem m_join : ∀ u us H Q, rFM fJoin u us H Q → (fun (x : V) (xs : List V) (H : Hp) (Q : VK) => ∃ a p, ∃ ys : List Str, x = .str a ∧ xs = [.ref p] ∧ (SqL K H p (ys.map V.str) ∨ SqT K H p (ys.map V.str)) ∧
    (ys.map (·.length)).sum + ys.length * a.length ≤ 16777216 ∧ Q (.str (Txt.join a ys)) H) u us H Q := by
  intro u us H Q ⟨F, x, xs, r, sm, hx, ra, hf, k⟩
  unfold fJoin at hf
  split at hf
  · rename_i a ys
    split at hf
    · rename_i ea
      split at hf
      · rename_i ps es
        split at hf
        · rename_i c
          cases hf
          have e1 := hx.sc rfl
          subst e1
          match us, ra with
          | _, .cons (.lst e al) .nil =>
            have := strsOf_eq es
            subst this
            rw [txs_map] at al
            rw [al.strs] at e
            refine ⟨a, _, ps.map mkS, rfl, rfl, .inl (SqL.of (sm _ _ e)), ?_, ?_⟩
            · have l0 : a.length = 0 := by rw [len_sL, ea]; rfl
              have l1 : ((ps.map mkS).map (·.length)).sum = ps.flatten.length := by
                rw [List.length_flatten, List.map_map]
                congr 1
              rw [l0, l1]
              omega
            · have e2 : Txt.join a (ps.map mkS) = mkS ps.flatten := by
                have h1 : TL.tl (Txt.join a (ps.map mkS)) = TL.joinL (TL.tl a) ((ps.map mkS).map TL.tl) := by rw [TL.join_eq]; exact TL.tl_join _ _
                have h2 : TL.tl a = [] := ea
                have h3 : (ps.map mkS).map TL.tl = ps := by rw [List.map_map]; exact List.map_id _
                rw [h2, h3, join_flat] at h1
                rw [← mk_sL (Txt.join a (ps.map mkS))]
                exact congrArg mkS h1
              rw [e2]
              exact k _ (.str _)
        · cases hf
      · cases hf
    · cases hf
  · cases hf
def fUpper (x : PyData) (xs : List PyData) : Option Vr := match x, xs with
  | .str a, [] => if (sL a).length ≤ 1000000 then some (.it (.str (Txt.upper a))) else none
  | _, _ => none
theorem m_upper : ∀ u us H Q, rFM fUpper u us H Q → (fun (x : V) (xs : List V) (H : Hp) (Q : VK) => ∃ a, x = .str a ∧ xs = [] ∧ a.length ≤ 5592405 ∧ Q (.str (Txt.upper a)) H) u us H Q := by
  intro u us H Q ⟨F, x, xs, r, sm, hx, ra, hf, k⟩
  unfold fUpper at hf
  split at hf
  · split at hf
    · rename_i a c
      cases hf
      have e1 := hx.sc rfl
      subst e1
      cases ra
      exact ⟨a, rfl, rfl, by rw [len_sL]; omega, k _ (.str _)⟩
    · cases hf
  · cases hf
/-- xs.index(y), plain things -/
def findP (y : PyData) : Nat → List PyData → Option Nat
  | _, [] => none
  | i, z :: zs => if eqP z y = true then some i else findP y (i + 1) zs
theorem findP_ok {y : PyData} : ∀ {zs : List PyData} {i j : Nat}, findP y i zs = some j → ∃ m z, j = i + m ∧ zs[m]? = some z ∧ eqP z y = true ∧ ∀ k z', k < m → zs[k]? = some z' → eqP z' y = false
  | [], i, j, h => by cases h
  | z :: zs, i, j, h => by
    unfold findP at h
    split at h
    · rename_i c; cases h; exact ⟨0, z, rfl, rfl, c, fun k z' hk => absurd hk (Nat.not_lt_zero _)⟩
    · rename_i c
      obtain ⟨m, z2, e, h1, h2, h3⟩ := findP_ok h
      refine ⟨m + 1, z2, by omega, by simpa using h1, h2, fun k z' hk ek => ?_⟩
      cases k with
      | zero => simp at ek; subst ek; simpa using c
      | succ k => exact h3 k z' (by omega) (by simpa using ek)
def fIndex (x : PyData) (xs : List PyData) : Option Vr := match x, xs with
  | .list ys, [y] => if scalar y = true ∧ ys.all scalar = true then (findP y 0 ys).map fun j => .it (.int (j : Nat)) else none
  | _, _ => none
theorem m_index : ∀ u us H Q, rFM fIndex u us H Q → rIndex K u us H Q := by
  intro u us H Q ⟨F, x, xs, r, sm, hx, ra, hf, k⟩
  unfold fIndex at hf
  split at hf
  · rename_i ys y
    split at hf
    · rename_i c
      obtain ⟨j, ej, rfl⟩ := Option.map_eq_some_iff.mp hf
      obtain ⟨p, vs, rfl, hp, rl⟩ := hx.list sm
      match us, ra with
      | _, .cons ry .nil =>
        obtain ⟨m, z, e0, h1, h2, h3⟩ := findP_ok ej
        have e0' : j = m := by omega
        subst e0'
        obtain ⟨v, hv, rv⟩ := rl.get h1
        have allsc : ∀ z ∈ ys, scalar z = true := List.all_eq_true.mp c.2
        have hz : scalar z = true := allsc z (List.mem_of_getElem? h1)
        refine ⟨p, vs, _, j, v, rfl, rfl, SqL.of hp, flat_of c.1 ry, flats_of c.2 rl, hv, by rw [eqP_of hz c.1 rv ry]; exact h2, fun i z' hi ez => ?_, k _ (.int _)⟩
        have hl : i < ys.length := by rw [← rl.length]; exact get_of_lt ez
        obtain ⟨v', hv', rv'⟩ := rl.get (List.getElem?_eq_getElem hl)
        rw [ez] at hv'; cases hv'
        have hz' := allsc _ (List.getElem_mem hl)
        rw [eqP_of hz' c.1 rv' ry]
        exact h3 i _ hi (List.getElem?_eq_getElem hl)
    · cases hf
  · cases hf

/-! ### owned cells changed -/
def getOc (ρ : Rho) (i : Nat) : Option Oc := match ρ[i]? with
  | some (.o c) => some c
  | some (.r c) => some c
  | _ => none
def setOc (ρ : Rho) (i : Nat) (c : Oc) : Rho := match ρ[i]? with
  | some (.o _) => ρ.set i (.o c)
  | some (.r _) => ρ.set i (.r c)
  | _ => ρ
theorem SR.cell {i : Nat} {c : Oc} (S : SR K fr F σ H ρ) (e : getOc ρ i = some c) : ∃ p, σ[i]? = some (some (.ref p)) ∧ OcRep F H p c ∧ ∀ ho c', OcRep F (upd H p ho) p c' → SR K fr F σ (upd H p ho) (setOc ρ i c') := by
  unfold getOc at e
  have main : ∀ (s' : Oc → Sl) (c0 : Oc), (∀ c, s' c = .o c ∨ s' c = .r c) → ρ[i]? = some (s' c0) → (∀ H' p c, (SlOk fr F σ H i (s' c0)) → σ[i]? = some (some (.ref p)) → OcRep F H' p c → SlOk fr F σ H' i (s' c)) → ∃ p, σ[i]? = some (some (.ref p)) ∧ OcRep F H p c0 ∧ ∀ ho c', OcRep F (upd H p ho) p c' → SR K fr F σ (upd H p ho) (ρ.set i (s' c')) := fun s' c0 hs h hk => by
    have w0 : Own ρ i := ⟨c0, by rcases hs c0 with z | z <;> rw [z] at h; exact .inl h; exact .inr h⟩
    have hi := get_of_lt h
    obtain ⟨p, c1, a, nF, nZ, rep⟩ := S.own w0
    have rep0 : OcRep F H p c0 := by
      have z := S.at h
      rcases hs c0 with q | q
      · rw [q] at z; obtain ⟨p', a', _, _, r'⟩ := z; rw [a] at a'; cases a'; exact r'
      · rw [q] at z; obtain ⟨p', _, a', _, _, r'⟩ := z; rw [a] at a'; cases a'; exact r'
    refine ⟨p, a, rep0, fun ho c' rep' => ⟨by simpa using S.len, fun b u e => ?_, fun b u e => ?_, S.dj, S.sA, fun j s q => ?_, fun j k q w1 w2 q1 q2 => ?_, let ⟨_, e1, e2, e3⟩ := rep0.plain; S.x.put e1 e2 e3⟩⟩
    · rw [upd_ne (ne_of_none e nF)]; exact S.sF _ _ e
    · rw [upd_ne (ne_of_none e nZ)]; exact S.sZ _ _ e
    · by_cases hj : j = i
      · subst hj; rw [List.getElem?_set_self hi] at q; cases q
        exact hk _ p c' (S.at h) a rep'
      · rw [List.getElem?_set_ne (Ne.symm hj)] at q
        have z := S.sl j s q
        cases s with
        | no => trivial
        | d x => exact z
        | scr ns => exact z
        | o c2 =>
          obtain ⟨q', a', b', d', r'⟩ := z
          have hq : q' ≠ p := fun h => hj (S.inj j i q' ⟨c2, .inl q⟩ w0 a' (by rw [h]; exact a))
          exact ⟨q', a', b', d', r'.at (Same.refl _) fun o z => by rw [upd_ne hq]; exact z⟩
        | r c2 =>
          obtain ⟨q', y', a', b', d', r'⟩ := z
          have hq : q' ≠ p := fun h => hj (S.inj j i q' ⟨c2, .inr q⟩ w0 a' (by rw [h]; exact a))
          exact ⟨q', y', a', b', d', r'.at (Same.refl _) fun o z => by rw [upd_ne hq]; exact z⟩
    · have back : ∀ {j}, Own (ρ.set i (s' c')) j → Own ρ j := fun {j} ⟨c, z⟩ => by
        by_cases hj : j = i
        · subst hj; exact w0
        · rw [List.getElem?_set_ne (Ne.symm hj)] at z; exact ⟨c, z⟩
      exact S.inj j k q (back w1) (back w2) q1 q2
  cases h : ρ[i]? with
  | none => rw [h] at e; cases e
  | some s =>
    rw [h] at e
    cases s with
    | no => cases e
    | d x => cases e
    | scr x => cases e
    | o c0 =>
      have e' : c0 = c := Option.some.inj e
      subst e'
      obtain ⟨p, a, rep, k⟩ := main .o c0 (fun _ => .inl rfl) h fun H' p c z a rep => by
        obtain ⟨p', a', nF, nZ, _⟩ := z
        rw [a] at a'; cases a'
        exact ⟨p, a, nF, nZ, rep⟩
      refine ⟨p, a, rep, fun ho c' r => ?_⟩
      have eq : setOc ρ i c' = ρ.set i (.o c') := by unfold setOc; rw [h]
      rw [eq]
      exact k ho c' r
    | r c0 =>
      have e' : c0 = c := Option.some.inj e
      subst e'
      obtain ⟨p, a, rep, k⟩ := main .r c0 (fun _ => .inr rfl) h fun H' p c z a rep => by
        obtain ⟨p', y, a', nF, nZ, _⟩ := z
        rw [a] at a'; cases a'
        exact ⟨p, y, a, nF, nZ, rep⟩
      refine ⟨p, a, rep, fun ho c' r => ?_⟩
      have eq : setOc ρ i c' = ρ.set i (.r c') := by unfold setOc; rw [h]
      rw [eq]
      exact k ho c' r
/-- xs.append(e) -/
def mApp (i : Nat) (me : ME) : ME := fun ρ => match getOc ρ i with
  | some (.l _) => bd (mFrz me ρ) fun y ρ1 => match getOc ρ1 i with
    | some (.l xs) => if xs.length < 1000000 then some (.ok (.d .none) (setOc ρ1 i (.l (xs ++ [y])))) else none
    | _ => none
  | _ => none
theorem slot_val (S : SR K fr F σ H ρ) {i : Nat} {c : Oc} (e : getOc ρ i = some c) : ∃ p, σ[i]? = some (some (.ref p)) ∧ OcRep F H p c := by
  obtain ⟨p, a, r, _⟩ := S.cell e
  exact ⟨p, a, r⟩
theorem app_of {i : Nat} {me : ME} {Q : VK} (h : tE K w (mApp i me) σ H Q) : tBM K "list" rAppend (tVar i) (tCons (tE K w me) tNil) σ H Q := by
  obtain ⟨fr, F, ρ, S, h⟩ := h
  have h' : WPg K w EvRep Q fr F σ (match getOc ρ i with
    | some (.l _) => bd (mFrz me ρ) fun y ρ1 => match getOc ρ1 i with
      | some (.l xs) => if xs.length < 1000000 then some (.ok (.d .none) (setOc ρ1 i (.l (xs ++ [y])))) else none
      | _ => none
    | _ => none) := h
  match e : getOc ρ i with
  | none => rw [e] at h'; exact h'.elim
  | some (.k _) => rw [e] at h'; exact h'.elim
  | some (.t _) => rw [e] at h'; exact h'.elim
  | some (.l xs0) =>
    rw [e] at h'
    obtain ⟨p, a, vs0, hp0, _⟩ := slot_val S e
    refine ⟨.ref p, a, .inl ⟨rfl, _, SqL.of hp0⟩, frzM (w := w) ⟨fr, F, ρ, S, WPg.bd (rel := relX) h' fun y ρ1 F1 H1 u S1 s1 r1 h1 => ?_⟩⟩
    match e1 : getOc ρ1 i with
    | none => rw [e1] at h1; exact h1.elim
    | some (.k _) => rw [e1] at h1; exact h1.elim
    | some (.t _) => rw [e1] at h1; exact h1.elim
    | some (.l xs) =>
      rw [e1] at h1
      have h2 : WPg K w EvRep Q fr F1 σ (if xs.length < 1000000 then some (.ok (.d .none) (setOc ρ1 i (.l (xs ++ [y])))) else none) := h1
      by_cases c : xs.length < 1000000
      · rw [if_pos c] at h2
        obtain ⟨p', a', ⟨vs, hp, ra⟩, k⟩ := S1.cell e1
        rw [a] at a'; cases a'
        refine ⟨p, vs, u, rfl, rfl, hp, by rw [ra.length, sizeLine_eq]; omega, ?_⟩
        exact h2 F1 _ _ (k _ _ ⟨vs ++ [u], upd_same, ra.app (.cons r1 .nil)⟩) (Same.refl _) .non
      · rw [if_neg c] at h2; exact h2.elim
theorem e_app {i : Nat} {x : Str} {me : ME} {p : Pos} (ha : PE X e (tE X.K w me)) (hN : X.N[i]? = some x := by rfl) (hv : Vis X.env.scope x := by first | exact Or.inl rfl | exact Or.inr (Or.inl rfl) | exact Or.inr (Or.inr rfl)) (hd : (x == ("__debug__" : Str)) = false := by decide)
    (hcd : (x == ("__classdict__" : Str)) = false := by decide)
    (hbase : attributeBase (.Name x p) "append" X.env (eval (.Name x p) X.env) = eval (.Name x p) X.env := by rfl)
    (hfew : ((backTo cpos (starEach (e :: []) X.env)).all (fun x => !x.1) && (backToKw cpos (keywordEach [] X.env)).all (fun x => x.1.isSome)
      && decide ((e :: []).length + ([] : List Keyword).length + (if ([] : List Keyword).isEmpty then 0 else 1) < 30)) = true := by rfl)
    (hline : (apos.endLine == cpos.line) = true := by rfl) (hs : starEach (e :: []) X.env = (false, eval e X.env) :: starEach [] X.env := by rfl) (hplain : (backTo cpos (starEach [] X.env)).any (·.1) = false := by rfl) :
    PE X (.Call (.Attribute (.Name x p) "append" apos) [e] [] cpos) (tE X.K w (mApp i me)) :=
  wkE (pe_bm PySem.F.plainAttrs_list PySem.F.slot_list_append PySem.F.type_list_append mt_append (pe_var hN hv hd hcd) (pa_cons ha pa_nil hs) hbase hfew hline hs hplain) fun _ _ _ h => app_of h
/-- xs.pop(i) -/
def mPop (i : Nat) (me : ME) : ME := fun ρ => match getOc ρ i with
  | some (.l _) => bd (me ρ) fun v ρ1 => match rd v ρ1, getOc ρ1 i with
    | some (.int j), some (.l xs) => match xs[j.toNat]? with
      | some y => if 0 ≤ j ∧ xs.length ≤ 1000000 then some (.ok (.d y) (setOc ρ1 i (.l (xs.eraseIdx j.toNat)))) else none
      | none => none
    | _, _ => none
  | _ => none
theorem pop_of {i : Nat} {me : ME} {Q : VK} (h : tE K w (mPop i me) σ H Q) : tBM K "list" rPopAt (tVar i) (tCons (tE K w me) tNil) σ H Q := by
  obtain ⟨fr, F, ρ, S, h⟩ := h
  have h' : WPg K w EvRep Q fr F σ (match getOc ρ i with
    | some (.l _) => bd (me ρ) fun v ρ1 => match rd v ρ1, getOc ρ1 i with
      | some (.int j), some (.l xs) => match xs[j.toNat]? with
        | some y => if 0 ≤ j ∧ xs.length ≤ 1000000 then some (.ok (.d y) (setOc ρ1 i (.l (xs.eraseIdx j.toNat)))) else none
        | none => none
      | _, _ => none
    | _ => none) := h
  match e : getOc ρ i with
  | none => rw [e] at h'; exact h'.elim
  | some (.k _) => rw [e] at h'; exact h'.elim
  | some (.t _) => rw [e] at h'; exact h'.elim
  | some (.l xs0) =>
    rw [e] at h'
    obtain ⟨p, a, vs0, hp0, _⟩ := slot_val S e
    refine ⟨.ref p, a, .inl ⟨rfl, _, SqL.of hp0⟩, ⟨fr, F, ρ, S, WPg.bd (rel := EvRep) h' fun v ρ1 F1 H1 u S1 s1 r1 h1 => ?_⟩⟩
    cases e1 : rd v ρ1 with
    | none => rw [e1] at h1; exact h1.elim
    | some x =>
      rw [e1] at h1
      have vw := rd_ok S1 r1 e1
      match x, vw, h1 with
      | .int j, vw, h1 =>
        match e2 : getOc ρ1 i with
        | none => rw [e2] at h1; exact h1.elim
        | some (.k _) => rw [e2] at h1; exact h1.elim
        | some (.t _) => rw [e2] at h1; exact h1.elim
        | some (.l xs) =>
          rw [e2] at h1
          have h2 : WPg K w EvRep Q fr F1 σ (match xs[j.toNat]? with
            | some y => if 0 ≤ j ∧ xs.length ≤ 1000000 then some (.ok (.d y) (setOc ρ1 i (.l (xs.eraseIdx j.toNat)))) else none
            | none => none) := h1
          cases e3 : xs[j.toNat]? with
          | none => rw [e3] at h2; exact h2.elim
          | some y =>
            rw [e3] at h2
            have h3 : WPg K w EvRep Q fr F1 σ (if 0 ≤ j ∧ xs.length ≤ 1000000 then some (.ok (.d y) (setOc ρ1 i (.l (xs.eraseIdx j.toNat)))) else none) := h2
            by_cases c : 0 ≤ j ∧ xs.length ≤ 1000000
            · rw [if_pos c] at h3
              obtain ⟨p', a', ⟨vs, hp, ra⟩, k⟩ := S1.cell e2
              rw [a] at a'; cases a'
              obtain ⟨yv, hyv, ry⟩ := ra.get e3
              have hlt : j.toNat < xs.length := get_of_lt e3
              have eu := vw.sc rfl
              subst eu
              refine ⟨p, vs, j, j.toNat, yv, rfl, rfl, hp, by omega, by omega, ?_, hyv, ?_⟩
              · unfold seqIndex?
                rw [ra.length]
                have hj : ¬ j < 0 := by omega
                simp only [hj, if_false]
                have : (decide (0 ≤ j) && decide (j < (xs.length : Int))) = true := by
                  rw [Bool.and_eq_true, decide_eq_true_eq, decide_eq_true_eq]; omega
                rw [if_pos this]
              · exact h3 F1 _ _ (k _ _ ⟨vs.eraseIdx j.toNat, upd_same, ra.eraseIdx _⟩) (Same.refl _) ry
            · rw [if_neg c] at h3; exact h3.elim
theorem e_pop {i : Nat} {x : Str} {me : ME} {p : Pos} (ha : PE X e (tE X.K w me)) (hN : X.N[i]? = some x := by rfl) (hv : Vis X.env.scope x := by first | exact Or.inl rfl | exact Or.inr (Or.inl rfl) | exact Or.inr (Or.inr rfl)) (hd : (x == ("__debug__" : Str)) = false := by decide)
    (hcd : (x == ("__classdict__" : Str)) = false := by decide)
    (hbase : attributeBase (.Name x p) "pop" X.env (eval (.Name x p) X.env) = eval (.Name x p) X.env := by rfl)
    (hfew : ((backTo cpos (starEach (e :: []) X.env)).all (fun x => !x.1) && (backToKw cpos (keywordEach [] X.env)).all (fun x => x.1.isSome)
      && decide ((e :: []).length + ([] : List Keyword).length + (if ([] : List Keyword).isEmpty then 0 else 1) < 30)) = true := by rfl)
    (hline : (apos.endLine == cpos.line) = true := by rfl) (hs : starEach (e :: []) X.env = (false, eval e X.env) :: starEach [] X.env := by rfl) (hplain : (backTo cpos (starEach [] X.env)).any (·.1) = false := by rfl) :
    PE X (.Call (.Attribute (.Name x p) "pop" apos) [e] [] cpos) (tE X.K w (mPop i me)) :=
  wkE (pe_bm PySem.F.plainAttrs_list PySem.F.slot_list_pop PySem.F.type_list_pop mt_popAt (pe_var hN hv hd hcd) (pa_cons ha pa_nil hs) hbase hfew hline hs hplain) fun _ _ _ h => pop_of h
/-- xs[j] = e, xs an owned list -/
def mSetIx (i : Nat) (mi me : ME) : MS := fun ρ => bS (mFrz me ρ) fun y ρ1 => match getOc ρ1 i with
  | some (.l _) => bS (mi ρ1) fun v ρ2 => match rd v ρ2, getOc ρ2 i with
    | some (.int j), some (.l xs) => match ixN xs.length j with
      | some n => some (.nx (setOc ρ2 i (.l (xs.set n y))))
      | none => none
    | _, _ => none
  | _ => none
theorem s_setIx {i : Nat} {x : Str} {mi me : ME} {ix : Expr} {p tpos : Pos} (hi : PE X ix (tE X.K w mi)) (he : PE X e (tE X.K w me)) (hN : X.N[i]? = some x := by rfl) (hv : Vis X.env.scope x := by first | exact Or.inl rfl | exact Or.inr (Or.inl rfl) | exact Or.inr (Or.inr rfl)) (hd : (x == ("__debug__" : Str)) = false := by decide)
    (hcd : (x == ("__classdict__" : Str)) = false := by decide)
    (hs : swapsWithSole [.Subscript (.Name x p) ix tpos] e pos.line X.env = pure false := by rfl) (hw : swappedStores [.Subscript (.Name x p) ix tpos] e X.env = pure none := by rfl)
    (h1 : (assignEach [.Subscript (.Name x p) ix tpos] X.env).map (·.2) = [assign (.Subscript (.Name x p) ix tpos) X.env] := by rfl)
    (ha : ∀ v, assign (.Subscript (.Name x p) ix tpos) X.env v = (do
      let ov ← holding [v] (eval (.Name x p) X.env)
      let iv ← holding [v, ov] (eval ix X.env)
      standAt tpos
      holding [v, ov, iv] (setItem ov iv v)
      release [v, ov, iv] []) := by intro _; rfl) : PS X (.Assign [.Subscript (.Name x p) ix tpos] e pos) (tS X.K w (mSetIx i mi me)) := by
  refine wkS (ps_asg he (pg_sub (pe_var hN hv hd hcd) hi set_list ha) hs hw h1) fun D σ H ⟨fr, F, ρ, S, h⟩ => ?_
  refine frzM (K := X.K) (w := w) ⟨fr, F, ρ, S, WPs.bd (rel := relX) S h fun y ρ1 F1 H1 u S1 s1 r1 h1 => ?_⟩
  match e : getOc ρ1 i with
  | none => rw [e] at h1; exact h1.elim
  | some (.k _) => rw [e] at h1; exact h1.elim
  | some (.t _) => rw [e] at h1; exact h1.elim
  | some (.l xs0) =>
    rw [e] at h1
    obtain ⟨p, a, vs0, hp0, _⟩ := slot_val S1 e
    refine ⟨.ref p, a, ⟨fr, F1, ρ1, S1, WPs.bd (rel := EvRep) S1 h1 fun v ρ2 F2 H2 u2 S2 s2 r2 h2 => ?_⟩⟩
    cases e1 : rd v ρ2 with
    | none => rw [e1] at h2; exact h2.elim
    | some x =>
      rw [e1] at h2
      have vw := rd_ok S2 r2 e1
      match x, vw, h2 with
      | .int j, vw, h2 =>
        match e2 : getOc ρ2 i with
        | none => rw [e2] at h2; exact h2.elim
        | some (.k _) => rw [e2] at h2; exact h2.elim
        | some (.t _) => rw [e2] at h2; exact h2.elim
        | some (.l xs) =>
          rw [e2] at h2
          have h3 : WPs X.K w D fr F2 (match ixN xs.length j with
            | some n => some (.nx (setOc ρ2 i (.l (xs.set n y))))
            | none => none) := h2
          cases e3 : ixN xs.length j with
          | none => rw [e3] at h3; exact h3.elim
          | some n =>
            rw [e3] at h3
            obtain ⟨p', a', ⟨vs, hp, ra⟩, k⟩ := S2.cell e2
            rw [a] at a'; cases a'
            refine ⟨p, vs, j, n, rfl, vw.sc rfl, hp, by rw [ra.length]; exact e3, ?_⟩
            exact h3 F2 σ _ (k _ _ ⟨vs.set n u, upd_same, RpA.set (Rp.mono s2 _ _ r1) n ra⟩) (Same.refl _)
end
end Pv

/-! Dicts. -/
namespace Pv
open PySem PySem.Spec PyProof.Rows L2
section
variable {κ : Type} [DecidableEq κ]
def getP (kvs : List (κ × PyData)) (k : κ) : Option PyData := (kvs.find? fun kv => decide (kv.1 = k)).map (·.2)
def putP (kvs : List (κ × PyData)) (k : κ) (v : PyData) : List (κ × PyData) :=
  if (kvs.any fun kv => decide (kv.1 = k)) = true then kvs.map (fun kv => if kv.1 = k then (kv.1, v) else kv) else kvs ++ [(k, v)]
theorem RpK.length {F : Hp} {ks : List (κ × V)} {kvs : List (κ × PyData)} (h : RpK F ks kvs) : ks.length = kvs.length := Paired.length h
theorem RpK.get {F : Hp} {k : κ} : ∀ {ks : List (κ × V)} {kvs : List (κ × PyData)}, RpK F ks kvs → (∀ x, getP kvs k = some x → ∃ v, valV ks k = some v ∧ Rp F v x) ∧ (getP kvs k = none → valV ks k = none)
  | _, _, .nil => And.intro (fun x h => by cases h) (fun _ => rfl)
  | _, _, .cons (a := p) (b := q) r t => by
    obtain ⟨h1, h2⟩ := RpK.get (k := k) t
    by_cases e : q.1 = k
    · have e' : p.1 = k := r.1.trans e
      refine ⟨fun x h => ⟨p.2, valV_pos e', ?_⟩, fun h => ?_⟩
      · unfold getP at h
        rw [List.find?_cons_of_pos (by simpa using e)] at h
        cases h; exact r.2
      · unfold getP at h
        rw [List.find?_cons_of_pos (by simpa using e)] at h
        cases h
    · have e' : ¬ p.1 = k := fun z => e (r.1.symm.trans z)
      have g : ∀ l : List (κ × PyData), getP (q :: l) k = getP l k := fun l => by unfold getP; rw [List.find?_cons_of_neg (by simpa using e)]
      rw [g, valV_neg e']
      exact ⟨h1, h2⟩
theorem RpK.any {F : Hp} {k : κ} : ∀ {ks : List (κ × V)} {kvs : List (κ × PyData)}, RpK F ks kvs → (ks.any fun kv => decide (kv.1 = k)) = (kvs.any fun kv => decide (kv.1 = k))
  | _, _, .nil => rfl
  | _, _, .cons r t => by rw [List.any_cons, List.any_cons, RpK.any t, r.1]
theorem RpK.put {F : Hp} {k : κ} {v : V} {x : PyData} {ks : List (κ × V)} {kvs : List (κ × PyData)} (h : RpK F ks kvs) (r : Rp F v x) : RpK F (putK ks k v) (putP kvs k x) := by
  unfold putK putP
  rw [RpK.any h]
  by_cases c : (kvs.any fun kv => decide (kv.1 = k)) = true
  · rw [if_pos c, if_pos c]
    clear c
    induction h with
    | nil => exact .nil
    | cons q t ih =>
      rename_i p q' _ _
      refine .cons ?_ ih
      show (if p.1 = k then (p.1, v) else p).1 = (if q'.1 = k then (q'.1, x) else q').1 ∧ Rp F (if p.1 = k then (p.1, v) else p).2 (if q'.1 = k then (q'.1, x) else q').2
      by_cases e : q'.1 = k
      · rw [if_pos e, if_pos (q.1.trans e)]; exact ⟨q.1, r⟩
      · rw [if_neg e, if_neg (fun z => e (q.1.symm.trans z))]; exact q
  · rw [if_neg c, if_neg c]
    clear c
    induction h with
    | nil => exact .cons ⟨rfl, r⟩ .nil
    | cons q t ih => exact .cons q ih
end
def keyP : PyData → Option Key
  | .int i => some (.inl i)
  | .str s => some (.inr s)
  | _ => none
def keysL : List PyData → Option (List Key)
  | [] => some []
  | x :: r => match keyP x, keysL r with
    | some k, some ks => some (k :: ks)
    | _, _ => none
def keysP : PyData → Option (List Key)
  | .tuple xs => keysL xs
  | _ => none
def dGet (c : Oc) (x : PyData) : Option (Option PyData) := match c with
  | .k kvs => (keyP x).map fun k => getP kvs k
  | .t kvs => (keysP x).map fun k => getP kvs k
  | .l _ => none
def dPut (c : Oc) (x y : PyData) : Option Oc := match c with
  | .k kvs => if kvs.length < 1000000 then (keyP x).map fun k => .k (putP kvs k y) else none
  | .t kvs => if kvs.length < 1000000 then (keysP x).map fun k => .t (putP kvs k y) else none
  | .l _ => none
section
variable {X : Cx} {tg e e2 o a b : Expr} {es : List Expr} {pos apos cpos : Pos} {w : WC} {K : PySem.W.Frag} {fr : Fr} {F : Hp} {σ : L2.St} {H : Hp} {ρ : Rho}
theorem key_of {u : V} {x : PyData} {k : Key} (h : Vw F H u x) (e : keyP x = some k) : u = kV k := by
  cases x <;> first
    | (cases e; exact h.sc rfl)
    | (simp [keyP] at e)
theorem keysL_of : ∀ {xs : List PyData} {vs : List V} {ks : List Key}, RpA F vs xs → keysL xs = some ks → vs = ks.map kV
  | _, _, _, .nil, e => by cases e; rfl
  | _, _, ks, .cons (d := x) (ds := xs) r t, e => by
    have e' : (match keyP x, keysL xs with
      | some k, some ks => some (k :: ks)
      | _, _ => none) = some ks := e
    cases e1 : keyP x with
    | none => rw [e1] at e'; cases e'
    | some k =>
      cases e2 : keysL xs with
      | none => rw [e1, e2] at e'; cases e'
      | some ks' =>
        rw [e1, e2] at e'
        cases e'
        rw [keysL_of t e2, key_of (H := F) (.inl r) e1]
        rfl
theorem keys_of {u : V} {x : PyData} {ks : List Key} (h : Vw F H u x) (e : keysP x = some ks) : ∃ p, u = .ref p ∧ F p = some (.tup (ks.map kV)) := by
  cases x with
  | tuple xs =>
    obtain ⟨p, vs, rfl, hp, ra⟩ := h.tup
    rw [keysL_of ra e] at hp
    exact ⟨p, rfl, hp⟩
  | _ => cases e
theorem dget_of {p : Addr} {c : Oc} {u : V} {x : PyData} {r : Option PyData} (sm : Same F H) (rep : OcRep F H p c) (h : Vw F H u x) (e : dGet c x = some r) : ∃ o, DGet H p u o ∧ (∀ y, r = some y → ∃ v, o = some v ∧ Rp F v y) ∧ (r = none → o = none) := by
  cases c with
  | l _ => cases e
  | k kvs =>
    obtain ⟨k, e1, rfl⟩ := Option.map_eq_some_iff.mp e
    obtain ⟨ks, hp, rk⟩ := rep
    have eu := key_of h e1
    subst eu
    obtain ⟨h1, h2⟩ := RpK.get (k := k) rk
    exact ⟨_, DGet.k hp, fun y q => h1 y q, h2⟩
  | t kvs =>
    obtain ⟨k, e1, rfl⟩ := Option.map_eq_some_iff.mp e
    obtain ⟨ks, hp, rk⟩ := rep
    obtain ⟨q, rfl, hq⟩ := keys_of h e1
    obtain ⟨h1, h2⟩ := RpK.get (k := k) rk
    exact ⟨_, DGet.t hp (sm _ _ hq), fun y q => h1 y q, h2⟩
theorem dput_of {p : Addr} {c c' : Oc} {u v : V} {x y : PyData} (sm : Same F H) (rep : OcRep F H p c) (h : Vw F H u x) (rv : Rp F v y) (e : dPut c x y = some c') : ∃ ho, DPut H p u v (upd H p ho) ∧ OcRep F (upd H p ho) p c' := by
  cases c with
  | l _ => cases e
  | k kvs =>
    have e' : (if kvs.length < 1000000 then (keyP x).map fun k => Oc.k (putP kvs k y) else none) = some c' := e
    by_cases cl : kvs.length < 1000000
    · rw [if_pos cl] at e'
      obtain ⟨k, e1, rfl⟩ := Option.map_eq_some_iff.mp e'
      obtain ⟨ks, hp, rk⟩ := rep
      have eu := key_of h e1
      subst eu
      exact ⟨_, DPut.k hp (by rw [rk.length, sizeLine_eq]; omega), _, upd_same, rk.put rv⟩
    · rw [if_neg cl] at e'; cases e'
  | t kvs =>
    have e' : (if kvs.length < 1000000 then (keysP x).map fun k => Oc.t (putP kvs k y) else none) = some c' := e
    by_cases cl : kvs.length < 1000000
    · rw [if_pos cl] at e'
      obtain ⟨k, e1, rfl⟩ := Option.map_eq_some_iff.mp e'
      obtain ⟨ks, hp, rk⟩ := rep
      obtain ⟨q, rfl, hq⟩ := keys_of h e1
      exact ⟨_, DPut.t hp (sm _ _ hq) (by rw [rk.length, sizeLine_eq]; omega), _, upd_same, rk.put rv⟩
    · rw [if_neg cl] at e'; cases e'
def isDk : Oc → Bool
  | .l _ => false
  | _ => true
theorem isD_of {p : Addr} {c : Oc} (h : isDk c = true) (rep : OcRep F H p c) : IsD H p := by
  cases c with
  | l _ => cases h
  | k _ => obtain ⟨ks, hp, _⟩ := rep; exact .inl ⟨ks, .inl hp⟩
  | t _ => obtain ⟨ks, hp, _⟩ := rep; exact .inr ⟨ks, .inl hp⟩
/-! d = {} -/
def mDNewK : ME := fun ρ => some (.ok (.o (.k [])) ρ)
def mDNewT : ME := fun ρ => some (.ok (.o (.t [])) ρ)
theorem e_dnewK : PE X (.Dict [] [] pos) (tE X.K w mDNewK) := wkE pe_dnewK fun σ H Q ⟨fr, F, ρ, S, h⟩ p n => by
  obtain ⟨S2, nF, nZ, no⟩ := S.newO (o := .dK []) n
  exact h F _ _ S2 (Same.refl _) ⟨p, rfl, nF, nZ, no, [], upd_same, .nil⟩
theorem e_dnewT : PE X (.Dict [] [] pos) (tE X.K w mDNewT) := wkE pe_dnewT fun σ H Q ⟨fr, F, ρ, S, h⟩ p n => by
  obtain ⟨S2, nF, nZ, no⟩ := S.newO (o := .dT []) n
  exact h F _ _ S2 (Same.refl _) ⟨p, rfl, nF, nZ, no, [], upd_same, .nil⟩
/-! d[k] -/
def mDGet (i : Nat) (mk : ME) : ME := fun ρ => match getOc ρ i with
  | some _ => bd (mk ρ) fun v ρ1 => match rd v ρ1, getOc ρ1 i with
    | some x, some c => match dGet c x with
      | some (some y) => some (.ok (.d y) ρ1)
      | _ => none
    | _, _ => none
  | none => none
theorem dGet_of {i : Nat} {mk : ME} {Q : VK} (h : tE K w (mDGet i mk) σ H Q) : tDGet (tVar i) (tE K w mk) σ H Q := by
  obtain ⟨fr, F, ρ, S, h⟩ := h
  have h' : WPg K w EvRep Q fr F σ (match getOc ρ i with
    | some _ => bd (mk ρ) fun v ρ1 => match rd v ρ1, getOc ρ1 i with
      | some x, some c => match dGet c x with
        | some (some y) => some (.ok (.d y) ρ1)
        | _ => none
      | _, _ => none
    | none => none) := h
  cases e : getOc ρ i with
  | none => rw [e] at h'; exact h'.elim
  | some c0 =>
    rw [e] at h'
    obtain ⟨p, a, _⟩ := slot_val S e
    refine ⟨.ref p, a, ⟨fr, F, ρ, S, WPg.bd (rel := EvRep) h' fun v ρ1 F1 H1 u S1 s1 r1 h1 => ?_⟩⟩
    cases e1 : rd v ρ1 with
    | none => rw [e1] at h1; exact h1.elim
    | some x =>
      cases e2 : getOc ρ1 i with
      | none => rw [e1, e2] at h1; exact h1.elim
      | some c =>
        rw [e1, e2] at h1
        have h2 : WPg K w EvRep Q fr F1 σ (match dGet c x with
          | some (some y) => some (.ok (.d y) ρ1)
          | _ => none) := h1
        obtain ⟨p', a', rep⟩ := slot_val S1 e2
        rw [a] at a'; cases a'
        match e3 : dGet c x with
        | none => rw [e3] at h2; exact h2.elim
        | some none => rw [e3] at h2; exact h2.elim
        | some (some y) =>
          rw [e3] at h2
          obtain ⟨o, g1, g2, _⟩ := dget_of S1.sF rep (rd_ok S1 r1 e1) e3
          obtain ⟨v', rfl, rv⟩ := g2 y rfl
          exact ⟨p, v', rfl, g1, h2 F1 H1 v' S1 (Same.refl _) rv⟩
theorem e_dget {i k : Nat} {x : Str} {mk : ME} {p : Pos} (hr : Room k X.A) (hi : PE X e (tE X.K w mk)) (hs : NoSl e) (hN : X.N[i]? = some x := by rfl) (hv : Vis X.env.scope x := by first | exact Or.inl rfl | exact Or.inr (Or.inl rfl) | exact Or.inr (Or.inr rfl)) (hd : (x == ("__debug__" : Str)) = false := by decide)
    (hcd : (x == ("__classdict__" : Str)) = false := by decide) : PE X (.Subscript (.Name x p) e pos) (tE X.K w (mDGet i mk)) := wkE (pe_dget (hu_of hr) (pe_var hN hv hd hcd) hi hs) fun _ _ _ h => dGet_of h
/-! d.get(k, x) -/
def mDGet2 (i : Nat) (mk mx : ME) : ME := fun ρ => match getOc ρ i with
  | some c0 => if isDk c0 = true then bd (mFrz mk ρ) fun kx ρ1 => bd (mFrz mx ρ1) fun dx ρ2 => match getOc ρ2 i with
      | some c => match dGet c kx with
        | some r => some (.ok (.d (r.getD dx)) ρ2)
        | none => none
      | none => none
    else none
  | none => none
theorem dGet2_of {i : Nat} {mk mx : ME} {Q : VK} (h : tE K w (mDGet2 i mk mx) σ H Q) : tDGet2 (tVar i) (tE K w mk) (tE K w mx) σ H Q := by
  obtain ⟨fr, F, ρ, S, h⟩ := h
  have h' : WPg K w EvRep Q fr F σ (match getOc ρ i with
    | some c0 => if isDk c0 = true then bd (mFrz mk ρ) fun kx ρ1 => bd (mFrz mx ρ1) fun dx ρ2 => match getOc ρ2 i with
        | some c => match dGet c kx with
          | some r => some (.ok (.d (r.getD dx)) ρ2)
          | none => none
        | none => none
      else none
    | none => none) := h
  cases e : getOc ρ i with
  | none => rw [e] at h'; exact h'.elim
  | some c0 =>
    rw [e] at h'
    have h2 : WPg K w EvRep Q fr F σ (if isDk c0 = true then bd (mFrz mk ρ) fun kx ρ1 => bd (mFrz mx ρ1) fun dx ρ2 => match getOc ρ2 i with
        | some c => match dGet c kx with
          | some r => some (.ok (.d (r.getD dx)) ρ2)
          | none => none
        | none => none
      else none) := h'
    by_cases cd : isDk c0 = true
    · rw [if_pos cd] at h2
      obtain ⟨p, a, rep0⟩ := slot_val S e
      refine ⟨.ref p, a, p, rfl, isD_of cd rep0, frzM (w := w) ⟨fr, F, ρ, S, WPg.bd (rel := relX) h2 fun kx ρ1 F1 H1 u1 S1 s1 r1 h3 => ?_⟩⟩
      refine frzM (w := w) ⟨fr, F1, ρ1, S1, WPg.bd (rel := relX) h3 fun dx ρ2 F2 H2 u2 S2 s2 r2 h4 => ?_⟩
      cases e2 : getOc ρ2 i with
      | none => rw [e2] at h4; exact h4.elim
      | some c =>
        rw [e2] at h4
        have h5 : WPg K w EvRep Q fr F2 σ (match dGet c kx with
          | some r => some (.ok (.d (r.getD dx)) ρ2)
          | none => none) := h4
        obtain ⟨p', a', rep⟩ := slot_val S2 e2
        rw [a] at a'; cases a'
        cases e3 : dGet c kx with
        | none => rw [e3] at h5; exact h5.elim
        | some r =>
          rw [e3] at h5
          obtain ⟨o, g1, g2, g3⟩ := dget_of S2.sF rep (.inl (Rp.mono s2 _ _ r1)) e3
          refine ⟨o, g1, h5 F2 H2 _ S2 (Same.refl _) ?_⟩
          cases r with
          | none => rw [g3 rfl]; exact r2
          | some y =>
            obtain ⟨v', rfl, rv⟩ := g2 y rfl
            exact rv
    · rw [if_neg cd] at h2; exact h2.elim
theorem e_dget2 {i k : Nat} {x : Str} {mk mx : ME} {p : Pos} (hr : Room k X.A) (hk : PE X e (tE X.K w mk)) (hx : PE X e2 (tE X.K w mx)) (hN : X.N[i]? = some x := by rfl) (hv : Vis X.env.scope x := by first | exact Or.inl rfl | exact Or.inr (Or.inl rfl) | exact Or.inr (Or.inr rfl)) (hd : (x == ("__debug__" : Str)) = false := by decide)
    (hcd : (x == ("__classdict__" : Str)) = false := by decide) (base : attributeBase (.Name x p) "get" X.env (eval (.Name x p) X.env) = eval (.Name x p) X.env := by rfl)
    (few : ((backTo cpos (starEach [e, e2] X.env)).all (fun x => !x.1) && (backToKw cpos (keywordEach [] X.env)).all (fun x => x.1.isSome)
      && decide (([e, e2] : List Expr).length + ([] : List Keyword).length + (if ([] : List Keyword).isEmpty then 0 else 1) < 30)) = true := by rfl)
    (line : (apos.endLine == cpos.line) = true := by rfl) (trees : backTo cpos (starEach [e, e2] X.env) = [(false, eval e X.env), (false, eval e2 X.env)] := by rfl) :
    PE X (.Call (.Attribute (.Name x p) "get" apos) [e, e2] [] cpos) (tE X.K w (mDGet2 i mk mx)) := wkE (pe_dget2 (hu_of hr) (pe_var hN hv hd hcd) hk hx ⟨base, few, line, trees⟩) fun _ _ _ h => dGet2_of h
/-! d[k] = v -/
def mDPut (i : Nat) (mk mv : ME) : MS := fun ρ => bS (mFrz mv ρ) fun y ρ1 => match getOc ρ1 i with
  | some _ => bS (mk ρ1) fun kv ρ2 => match rd kv ρ2, getOc ρ2 i with
    | some x, some c => match dPut c x y with
      | some c' => some (.nx (setOc ρ2 i c'))
      | none => none
    | _, _ => none
  | none => none
theorem s_dput {i k : Nat} {x : Str} {mk mv : ME} {ix : Expr} {p pos' : Pos} (hr : Room k X.A) (hi : PE X ix (tE X.K w mk)) (he : PE X e (tE X.K w mv)) (hs : swapsWith e (some (.Subscript (.Name x p) ix pos')) pos.line X.env = pure false := by rfl) (hN : X.N[i]? = some x := by rfl) (hv : Vis X.env.scope x := by first | exact Or.inl rfl | exact Or.inr (Or.inl rfl) | exact Or.inr (Or.inr rfl)) (hd : (x == ("__debug__" : Str)) = false := by decide)
    (hcd : (x == ("__classdict__" : Str)) = false := by decide) : PS X (.Assign [.Subscript (.Name x p) ix pos'] e pos) (tS X.K w (mDPut i mk mv)) := by
  refine wkS (ps_dput (hu_of hr) (pe_var (i := i) hN hv hd hcd) hi he hs) fun D σ H ⟨fr, F, ρ, S, h⟩ => ?_
  refine frzM (K := X.K) (w := w) ⟨fr, F, ρ, S, WPs.bd (rel := relX) S h fun y ρ1 F1 H1 u S1 s1 r1 h1 => ?_⟩
  cases e0 : getOc ρ1 i with
  | none => rw [e0] at h1; exact h1.elim
  | some c0 =>
    rw [e0] at h1
    obtain ⟨p, a, _⟩ := slot_val S1 e0
    refine ⟨.ref p, a, ⟨fr, F1, ρ1, S1, WPs.bd (rel := EvRep) S1 h1 fun v ρ2 F2 H2 u2 S2 s2 r2 h2 => ?_⟩⟩
    cases e1 : rd v ρ2 with
    | none => rw [e1] at h2; exact h2.elim
    | some x =>
      cases e2 : getOc ρ2 i with
      | none => rw [e1, e2] at h2; exact h2.elim
      | some c =>
        rw [e1, e2] at h2
        have h3 : WPs X.K w D fr F2 (match dPut c x y with
          | some c' => some (.nx (setOc ρ2 i c'))
          | none => none) := h2
        cases e3 : dPut c x y with
        | none => rw [e3] at h3; exact h3.elim
        | some c' =>
          rw [e3] at h3
          obtain ⟨p', a', rep, k⟩ := S2.cell e2
          rw [a] at a'; cases a'
          obtain ⟨ho, d1, d2⟩ := dput_of S2.sF rep (rd_ok S2 r2 e1) (Rp.mono s2 _ _ r1) e3
          exact ⟨p, _, rfl, d1, h3 F2 σ _ (k _ _ d2) (Same.refl _)⟩
end
end Pv

/-! Two and three names at once; while; written texts; lists reversed. -/
namespace Pv
open PySem PySem.Spec PyProof.Rows L2
section
variable {X : Cx} {tg e e2 o a b c : Expr} {es : List Expr} {pos apos cpos : Pos} {w : WC} {K : PySem.W.Frag} {fr : Fr} {F : Hp} {σ : L2.St} {H : Hp} {ρ : Rho}
theorem e_strL (l : List Nat) {i : Str} {j} (h : i = mkS l) : PE X (.Constant (.str i) j pos) (tE X.K w (mC (tx l))) := by subst h; exact e_str
def isB (i : Nat) : Ev → Bool
  | .b j => i == j
  | _ => false
/-- what a store leaves of another value -/
theorem asg_ev {i : Nat} {u u2 : V} {v v2 : Ev} {ρ' : Rho} (S : SR K fr F σ H ρ) (r : EvRep fr F σ H ρ u v) (e : asg i v ρ = some ρ') (r2 : EvRep fr F σ H ρ u2 v2) (hb : isB i v2 = false) (hne : ∀ c c2, v = .o c → v2 = .o c2 → u ≠ u2) : EvRep fr F (σ.set i (some u)) H ρ' u2 v2 := by
  have S' := asg_ok S r e
  have hi : i < σ.length := by
    unfold asg at e
    cases h : ρ[i]? with
    | none => rw [h] at e; cases e
    | some t => rw [← S.len]; exact get_of_lt h
  -- who owns behind
  have own : ∀ k, Own ρ' k → (k = i ∧ ((∃ c, v = .o c) ∨ ∃ j c, v = .b j ∧ ρ[j]? = some (.o c))) ∨ (k ≠ i ∧ Own ρ k) := fun k ⟨c, z⟩ => by
    unfold asg at e
    cases h : ρ[i]? with
    | none => rw [h] at e; cases e
    | some t =>
      have hil := get_of_lt h
      have go : ∀ s, (∀ c, s ≠ .o c) → (∀ c, s ≠ .r c) → ρ' = ρ.set i s → (k = i ∧ ((∃ c, v = .o c) ∨ ∃ j c, v = .b j ∧ ρ[j]? = some (.o c))) ∨ (k ≠ i ∧ Own ρ k) := fun s h1 h2 e' => by
        subst e'
        by_cases hk : k = i
        · subst hk; rw [List.getElem?_set_self hil] at z; rcases z with z | z
          · cases z; exact absurd rfl (h1 _)
          · cases z; exact absurd rfl (h2 _)
        · rw [List.getElem?_set_ne (Ne.symm hk)] at z; exact .inr ⟨hk, c, z⟩
      rw [h] at e
      have main : (match v with
        | .d x => some (ρ.set i (.d x))
        | .o c => some (ρ.set i (.o c))
        | .b j => match ρ[j]? with
          | some (.d x) => some (ρ.set i (.d x))
          | some (.scr ns) => some (ρ.set i (.scr ns))
          | some (.o c) => if i = j then none else some ((ρ.set j .no).set i (.o c))
          | _ => none) = some ρ' := by cases t <;> first | exact e | cases e
      cases v with
      | d x =>
        have main : some (ρ.set i (.d x)) = some ρ' := main
        cases main
        exact go (.d x) (fun _ z => by cases z) (fun _ z => by cases z) rfl
      | o c0 =>
        have main : some (ρ.set i (.o c0)) = some ρ' := main
        cases main
        by_cases hk : k = i
        · exact .inl ⟨hk, .inl ⟨c0, rfl⟩⟩
        · rw [List.getElem?_set_ne (Ne.symm hk)] at z; exact .inr ⟨hk, c, z⟩
      | b j =>
        have main : (match ρ[j]? with
          | some (.d x) => some (ρ.set i (.d x))
          | some (.scr ns) => some (ρ.set i (.scr ns))
          | some (.o c) => if i = j then none else some ((ρ.set j .no).set i (.o c))
          | _ => none) = some ρ' := main
        cases h2 : ρ[j]? with
        | none => rw [h2] at main; cases main
        | some t2 =>
          rw [h2] at main
          match t2, h2, main with
          | .d x, h2, main => cases main; exact go (.d x) (fun _ z => by cases z) (fun _ z => by cases z) rfl
          | .scr x, h2, main => cases main; exact go (.scr x) (fun _ z => by cases z) (fun _ z => by cases z) rfl
          | .o c0, h2, main =>
            replace main : (if i = j then none else some ((ρ.set j .no).set i (.o c0))) = some ρ' := main
            by_cases hij : i = j
            · rw [if_pos hij] at main; cases main
            · rw [if_neg hij] at main
              cases main
              by_cases hk : k = i
              · exact .inl ⟨hk, .inr ⟨j, c0, rfl, h2⟩⟩
              · rw [List.getElem?_set_ne (Ne.symm hk)] at z
                by_cases hkj : k = j
                · subst hkj
                  rw [List.getElem?_set_self (get_of_lt h2)] at z
                  rcases z with z | z <;> cases z
                · rw [List.getElem?_set_ne (Ne.symm hkj)] at z; exact .inr ⟨hk, c, z⟩
  match v2, r2, hb, hne with
  | .d x, r2, hb, hne => exact r2
  | .b k, r2, hb, hne =>
    have hk : i ≠ k := by simpa [isB] using hb
    have r2' : σ[k]? = some (some u2) := r2
    show (σ.set i (some u))[k]? = some (some u2)
    rw [List.getElem?_set_ne hk]; exact r2'
  | .o c2, r2, hb, hne =>
    obtain ⟨p, rfl, nF, nZ, no, rep⟩ := r2
    refine ⟨p, rfl, nF, nZ, fun k wk q => ?_, rep⟩
    rcases own k wk with ⟨rfl, z⟩ | ⟨hk, z⟩
    · rw [List.getElem?_set_self hi] at q
      cases q
      rcases z with ⟨c, rfl⟩ | ⟨j, c, rfl, hj⟩
      · exact hne c c2 rfl rfl rfl
      · exact no j ⟨c, .inl hj⟩ r
    · rw [List.getElem?_set_ne (Ne.symm hk)] at q
      exact no k z q
def mPar2 (i j : Nat) (ma mb : ME) : MS := fun ρ => bS (ma ρ) fun v1 ρ1 => bS (mb ρ1) fun v2 ρ2 => if isB i v2 = true then none else match asg i v1 ρ2 with
  | some ρ3 => (asg j v2 ρ3).map .nx
  | none => none
theorem ev_ne {g : Fr} {F' H' : Hp} {ρ' : Rho} {u u2 : V} {cc : Oc} (hold1 : ∀ p, u = .ref p → g.Z p ≠ none) (r2 : EvRep g F' σ H' ρ' u2 (.o cc)) : u ≠ u2 := fun e => by
  obtain ⟨p, e2, _, nZ, _⟩ := r2
  exact hold1 p (e.trans e2) nZ
/-- as hold, and what is put by is protected -/
theorem hold2 {u : V} {v : Ev} (S : SR K fr F σ H ρ) (e : EvRep fr F σ H ρ u v) : ∃ g : Fr, fr.Le g ∧ SR K g F σ H ρ ∧ (∀ F' H' ρ', SR K g F' σ H' ρ' → Same F F' → SR K fr F' σ H' ρ' ∧ EvRep fr F' σ H' ρ' u v ∧
    ∀ u2 v2, EvRep g F' σ H' ρ' u2 v2 → EvRep fr F' σ H' ρ' u2 v2) ∧ ∀ c, v = .o c → ∀ p, u = .ref p → g.Z p ≠ none := by
  cases v with
  | d x => obtain ⟨g, h1, h2, h3⟩ := hold S e; exact ⟨g, h1, h2, h3, fun c z => nomatch z⟩
  | b x => obtain ⟨g, h1, h2, h3⟩ := hold S e; exact ⟨g, h1, h2, h3, fun c z => nomatch z⟩
  | o c =>
    have e0 := e
    obtain ⟨p, rfl, nF, nZ, no, rep⟩ := e0
    obtain ⟨ho, eo⟩ := rep.there
    have hnt : ∀ b vs, upd fr.Z p ho b ≠ some (.tup vs) := nt_put fr.nt fun vs z => rep.nt vs (by rw [eo, z])
    have hnq : ∀ b ps, upd fr.Z p ho b ≠ some (.tbl ps) := nq_put fr.nq fun ps z => rep.nq ps (by rw [eo, z])
    have le : fr.Le { fr with Z := upd fr.Z p ho, nt := hnt, nq := hnq } := ⟨fun b u e => by show upd fr.Z p ho b = some u; rw [upd_ne (ne_of_none e nZ)]; exact e, rfl, rfl⟩
    refine ⟨{ fr with Z := upd fr.Z p ho, nt := hnt, nq := hnq }, le, ⟨S.len, S.sF, fun b u e => ?_, fun b u e => ?_, fun a ns h => le.z.seq (S.sA a ns h), fun i s e => ?_, S.inj, S.x⟩, fun F' H' ρ' S' sm => ⟨S'.shrink le S.sA, ?_, fun u2 v2 q => ?_⟩, fun c' _ q hq => ?_⟩
    · have e' : upd fr.Z p ho b = some u := e
      by_cases hb : b = p
      · subst hb; rw [upd_same] at e'; rw [eo, e']
      · rw [upd_ne hb] at e'; exact S.sZ _ _ e'
    · have e' : upd fr.Z p ho b = some u := e
      by_cases hb : b = p
      · subst hb; exact nF
      · rw [upd_ne hb] at e'; exact S.dj _ _ e'
    · have h := S.sl i s e
      cases s with
      | no => trivial
      | d x => exact h
      | o c' =>
        obtain ⟨q, a, b, d, r⟩ := h
        have hq : q ≠ p := fun z => no i ⟨c', .inl e⟩ (by rw [← z]; exact a)
        exact ⟨q, a, b, by show upd fr.Z p ho q = none; rw [upd_ne hq]; exact d, r⟩
      | r c' =>
        obtain ⟨q, z, a, b, d, r⟩ := h
        have hq : q ≠ p := fun z => no i ⟨c', .inr e⟩ (by rw [← z]; exact a)
        exact ⟨q, z, a, b, by show upd fr.Z p ho q = none; rw [upd_ne hq]; exact d, r⟩
      | scr ns => exact h
    · have hZ : (upd fr.Z p ho) p = some ho := upd_same
      refine ⟨p, rfl, S'.dj _ _ hZ, nZ, fun i w q => ?_, rep.at sm fun o z => ?_⟩
      · have z : (upd fr.Z p ho) p = none := (S'.ownAt w q).2.1
        rw [hZ] at z; cases z
      · rw [eo] at z; cases z
        exact S'.sZ _ _ hZ
    · cases v2 with
      | d x => exact q
      | b i => exact q
      | o c2 => obtain ⟨p2, a, b, z, d, r⟩ := q; exact ⟨p2, a, b, le.z.free z, d, r⟩
    · cases hq
      show upd fr.Z p ho p ≠ none
      rw [upd_same]; exact fun z => nomatch z
theorem WPs.frame {g : Fr} {D : Ends} {r : Option Fl} (h : WPs K w D fr F r) (le : fr.Le g) (sA : ∀ a ns, fr.A a ns → SqL K fr.Z a (ns.map V.int))
    (hr : ∀ F' σ' H' ρ' u v, Same F F' → SR K g F' σ' H' ρ' → EvRep g F' σ' H' ρ' u v → EvRep fr F' σ' H' ρ' u v) : WPs K w D g F r := by
  match r, h with
  | some (.nx ρ), h => exact fun F2 σ' H' S s2 => h F2 σ' H' (S.shrink le sA) s2
  | some (.bk ρ), h => exact fun F2 σ' H' S s2 => h F2 σ' H' (S.shrink le sA) s2
  | some (.ct ρ), h => exact fun F2 σ' H' S s2 => h F2 σ' H' (S.shrink le sA) s2
  | some (.rt v ρ), h => exact fun F2 σ' H' u S s2 q => h F2 σ' H' u (S.shrink le sA) s2 (hr _ _ _ _ _ _ s2 S q)
  | some (.er x ρ), h => exact fun F2 σ' H' c d S s2 q => h F2 σ' H' c d (S.shrink le sA) s2 q
theorem WPs.bdG {α β : Type} {rel : RelT α β} {g : Fr} {D : Ends} {r : Option (Rg α)} {f : α → Rho → Option Fl} {Q : β → Hp → Prop} (h : WPs K w D fr F (bS r f)) (le : fr.Le g) (sA : ∀ a ns, fr.A a ns → SqL K fr.Z a (ns.map V.int))
    (k : ∀ a ρ F' H' b, SR K g F' σ H' ρ → Same F F' → rel g F' σ H' ρ b a → WPs K w D fr F' (f a ρ) → Q b H') : WPg K w rel Q g F σ r := by
  match r, h with
  | some (.ok a ρ), h => exact fun F2 H' b S s2 q => k a ρ F2 H' b S s2 q (WPs.mono h s2)
  | some (.er x ρ), h => exact fun F2 H' c d S s2 q => h F2 σ H' c d (S.shrink le sA) s2 q
theorem evle {g : Fr} (le : fr.Le g) {F' H' : Hp} {σ' : L2.St} {ρ' : Rho} {u : V} {v : Ev} (q : EvRep g F' σ' H' ρ' u v) : EvRep fr F' σ' H' ρ' u v := by
  cases v with
  | d x => exact q
  | b i => exact q
  | o c2 => obtain ⟨p2, a, b, z, d, r⟩ := q; exact ⟨p2, a, b, le.z.free z, d, r⟩
theorem s_par2 {i j : Nat} {x y : Str} {ma mb : ME} {px py pt : Pos} {kt k2 pt2} (hc : X.calm = true) (hN : X.N.Nodup) (hi : X.N[i]? = some x) (hj : X.N[j]? = some y) (hij : i ≠ j)
    (hx : X.env.scope.names.lookup x = some .local) (hy : X.env.scope.names.lookup y = some .local) (ha : PE X a (tE X.K w ma)) (hb : PE X b (tE X.K w mb))
    (hs1 : starEach [a, b] X.env = (false, eval a X.env) :: starEach [b] X.env := by rfl) (hs2 : starEach [b] X.env = (false, eval b X.env) :: starEach [] X.env := by rfl)
    (hw : swappedStores [.Tuple [.Name x px, .Name y py] kt pt] (.Tuple [a, b] k2 pt2) X.env = pure (some [x, y]) := by rfl)
    (hs : swapsWithSole [.Tuple [.Name x px, .Name y py] kt pt] (.Tuple [a, b] k2 pt2) pos.line X.env = pure false := by rfl) :
    PS X (.Assign [.Tuple [.Name x px, .Name y py] kt pt] (.Tuple [a, b] k2 pt2) pos) (tS X.K w (mPar2 i j ma mb)) := by
  refine wkS (ps_par hc hN hi hj hij hx hy (pa_cons ha (pa_cons hb pa_nil hs2) hs1) hw hs) fun D σ H ⟨fr, F, ρ, S, h⟩ => ?_
  refine ⟨fr, F, ρ, S, WPs.bd (rel := EvRep) S h fun v1 ρ1 F1 H1 u1 S1 s1 r1 h1 => ?_⟩
  obtain ⟨g, le, Sg, back, prot⟩ := hold2 S1 r1
  refine ⟨g, F1, ρ1, Sg, WPs.bdG (rel := EvRep) h1 le S1.sA fun v2 ρ2 F2 H2 u2 S2 s2 r2 h2 => ?_⟩
  obtain ⟨S2', r1', b2⟩ := back F2 H2 ρ2 S2 s2
  have r2' := b2 _ _ r2
  refine ⟨u1, u2, rfl, ?_⟩
  by_cases cb : isB i v2 = true
  · rw [if_pos cb] at h2; exact h2.elim
  · rw [if_neg cb] at h2
    cases e1 : asg i v1 ρ2 with
    | none => rw [e1] at h2; exact h2.elim
    | some ρ3 =>
      rw [e1] at h2
      have h3 : WPs X.K w D fr F2 ((asg j v2 ρ3).map .nx) := h2
      cases e2 : asg j v2 ρ3 with
      | none => rw [e2] at h3; exact h3.elim
      | some ρ4 =>
        rw [e2] at h3
        have bad : isB i v2 = false := by simpa using cb
        have Sg3 : SR X.K fr F2 (σ.set i (some u1)) H2 ρ3 := asg_ok S2' r1' e1
        have r2'' := asg_ev S2' r1' e1 r2' bad fun c c2 z1 z2 => ev_ne (cc := c2) (prot c z1) (by rw [← z2]; exact r2)
        exact h3 F2 _ H2 (asg_ok Sg3 r2'' e2) (Same.refl _)
def mPar3 (i j l : Nat) (ma mb mc : ME) : MS := fun ρ => bS (ma ρ) fun v1 ρ1 => bS (mb ρ1) fun v2 ρ2 => bS (mc ρ2) fun v3 ρ3 => if isB i v2 = true ∨ isB i v3 = true ∨ isB j v3 = true then none else match asg i v1 ρ3 with
  | some ρ4 => match asg j v2 ρ4 with
    | some ρ5 => (asg l v3 ρ5).map .nx
    | none => none
  | none => none
theorem s_par3 {i j l : Nat} {x y z : Str} {ma mb mc : ME} {px py pz pt : Pos} {kt k2 pt2} (hc : X.calm = true) (hN : X.N.Nodup) (hi : X.N[i]? = some x) (hj : X.N[j]? = some y) (hl : X.N[l]? = some z) (hij : i ≠ j) (hil : i ≠ l) (hjl : j ≠ l)
    (hx : X.env.scope.names.lookup x = some .local) (hy : X.env.scope.names.lookup y = some .local) (hz : X.env.scope.names.lookup z = some .local) (ha : PE X a (tE X.K w ma)) (hb : PE X b (tE X.K w mb)) (hcc : PE X c (tE X.K w mc))
    (hs1 : starEach [a, b, c] X.env = (false, eval a X.env) :: starEach [b, c] X.env := by rfl) (hs2 : starEach [b, c] X.env = (false, eval b X.env) :: starEach [c] X.env := by rfl) (hs3 : starEach [c] X.env = (false, eval c X.env) :: starEach [] X.env := by rfl)
    (hw : swappedStores [.Tuple [.Name x px, .Name y py, .Name z pz] kt pt] (.Tuple [a, b, c] k2 pt2) X.env = pure (some [x, y, z]) := by rfl)
    (hs : swapsWithSole [.Tuple [.Name x px, .Name y py, .Name z pz] kt pt] (.Tuple [a, b, c] k2 pt2) pos.line X.env = pure false := by rfl) :
    PS X (.Assign [.Tuple [.Name x px, .Name y py, .Name z pz] kt pt] (.Tuple [a, b, c] k2 pt2) pos) (tS X.K w (mPar3 i j l ma mb mc)) := by
  refine wkS (ps_par3 hc hN hi hj hl hij hil hjl hx hy hz (pa_cons ha (pa_cons hb (pa_cons hcc pa_nil hs3) hs2) hs1) hw hs) fun D σ H ⟨fr, F, ρ, S, h⟩ => ?_
  refine ⟨fr, F, ρ, S, WPs.bd (rel := EvRep) S h fun v1 ρ1 F1 H1 u1 S1 s1 r1 h1 => ?_⟩
  obtain ⟨g, le, Sg, back, prot⟩ := hold2 S1 r1
  refine ⟨g, F1, ρ1, Sg, WPs.bdG (rel := EvRep) h1 le S1.sA fun v2 ρ2 F2 H2 u2 S2 s2 r2 h2 => ?_⟩
  obtain ⟨g2, le2, Sg2, back2, prot2⟩ := hold2 S2 r2
  have le12 : fr.Le g2 := ⟨le.z.trans le2.z, le2.p.trans le.p, le2.a.trans le.a⟩
  refine ⟨g2, F2, ρ2, Sg2, WPs.bdG (rel := EvRep) h2 le12 S1.sA fun v3 ρ3 F3 H3 u3 S3 s3 r3 h3 => ?_⟩
  obtain ⟨S3', r2', b3⟩ := back2 F3 H3 ρ3 S3 s3
  obtain ⟨S3'', r1', b1⟩ := back F3 H3 ρ3 S3' (s2.trans s3)
  have r2f := b1 _ _ r2'
  have r3' := b3 _ _ r3
  have r3f := b1 _ _ r3'
  refine ⟨u1, u2, u3, rfl, ?_⟩
  by_cases cb : isB i v2 = true ∨ isB i v3 = true ∨ isB j v3 = true
  · rw [if_pos cb] at h3; exact h3.elim
  · rw [if_neg cb] at h3
    have b12 : isB i v2 = false := by cases q : isB i v2 with
      | false => rfl
      | true => exact absurd (.inl q) cb
    have b13 : isB i v3 = false := by cases q : isB i v3 with
      | false => rfl
      | true => exact absurd (.inr (.inl q)) cb
    have b23 : isB j v3 = false := by cases q : isB j v3 with
      | false => rfl
      | true => exact absurd (.inr (.inr q)) cb
    cases e1 : asg i v1 ρ3 with
    | none => rw [e1] at h3; exact h3.elim
    | some ρ4 =>
      rw [e1] at h3
      have h4 : WPs X.K w D fr F3 (match asg j v2 ρ4 with
        | some ρ5 => (asg l v3 ρ5).map .nx
        | none => none) := h3
      cases e2 : asg j v2 ρ4 with
      | none => rw [e2] at h4; exact h4.elim
      | some ρ5 =>
        rw [e2] at h4
        have h5 : WPs X.K w D fr F3 ((asg l v3 ρ5).map .nx) := h4
        cases e3 : asg l v3 ρ5 with
        | none => rw [e3] at h5; exact h5.elim
        | some ρ6 =>
          rw [e3] at h5
          have Sa := asg_ok S3'' r1' e1
          have n12 : ∀ c c2, v1 = .o c → v2 = .o c2 → u1 ≠ u2 := fun c c2 z1 z2 => ev_ne (cc := c2) (prot c z1) (by rw [← z2]; exact r2')
          have n13 : ∀ c c2, v1 = .o c → v3 = .o c2 → u1 ≠ u3 := fun c c2 z1 z2 => ev_ne (cc := c2) (prot c z1) (by rw [← z2]; exact r3')
          have n23 : ∀ c c2, v2 = .o c → v3 = .o c2 → u2 ≠ u3 := fun c c2 z1 z2 => ev_ne (cc := c2) (prot2 c z1) (by rw [← z2]; exact r3)
          have ra2 := asg_ev S3'' r1' e1 r2f b12 n12
          have ra3 := asg_ev S3'' r1' e1 r3f b13 n13
          have Sb := asg_ok Sa ra2 e2
          have rb3 := asg_ev Sa ra2 e2 ra3 b23 n23
          exact h5 F3 _ H3 (asg_ok Sb rb3 e3) (Same.refl _)

/-! ### while -/
/-- b's turns while t holds, at most n of them -/
def whileF (t : MT) (b : MS) : Nat → Rho → Option Fl
  | 0, _ => none
  | n + 1, ρ => bS (t ρ) fun c ρ1 => if c then match b ρ1 with
      | some (.nx ρ2) => whileF t b n ρ2
      | some (.ct ρ2) => whileF t b n ρ2
      | some (.bk ρ2) => some (.nx ρ2)
      | r => r
    else some (.nx ρ1)
def mWhile (n : Nat) (t : MT) (b : MS) : MS := fun ρ => whileF t b n ρ
theorem s_while {n : Nat} {c : Expr} {body : List Stmt} {t : MT} {b : MS} (hp : PassesOwn (model X.prog X.w) X.A X.env X.xe) (hc : PT X c (tT X.K w t)) (hb : PSs X body (tS X.K w b)) : PS X (.While c body [] pos) (tS X.K w (mWhile n t b)) := by
  refine wkS (ps_while hp hc hb) fun D σ H ⟨fr, F, ρ, S, h⟩ => ?_
  refine ⟨fun m σ H => ∃ F ρ, SR X.K fr F σ H ρ ∧ WPs X.K w D fr F (whileF t b m ρ), ⟨n, F, ρ, S, h⟩, fun m σ2 H2 ⟨F2, ρ2, S2, h2⟩ => ?_⟩
  cases m with
  | zero => exact h2.elim
  | succ m =>
    refine ⟨fr, F2, ρ2, S2, WPs.bd (rel := relB) S2 h2 fun c ρ3 F3 H3 u S3 s3 r3 h3 => ?_⟩
    have r3 : u = c := r3
    subst r3
    cases u with
    | false =>
      rw [if_neg Bool.false_ne_true] at h3 ⊢
      exact h3 F3 σ2 H3 S3 (Same.refl _)
    | true =>
      rw [if_pos rfl] at h3 ⊢
      refine ⟨fun σ' H' => ∃ F ρ, SR X.K fr F σ' H' ρ ∧ WPs X.K w D fr F (whileF t b m ρ), fun σ' H' q => ⟨m, Nat.lt_succ_self _, q⟩, fr, F3, ρ3, S3, ?_⟩
      cases eb : b ρ3 with
      | none => rw [eb] at h3; exact h3.elim
      | some f =>
        rw [eb] at h3
        cases f with
        | nx ρ5 => exact fun F' σ' H' S' sm => ⟨F', ρ5, S', WPs.mono h3 sm⟩
        | ct ρ5 => exact fun F' σ' H' S' sm => ⟨F', ρ5, S', WPs.mono h3 sm⟩
        | bk ρ5 => exact h3
        | rt v ρ5 => exact h3
        | er x ρ5 => exact h3
/-! ### xs[::-1] of a list -/
def fRevL (x : PyData) : Option Vr := match x with
  | .list xs => some (.li xs.reverse)
  | _ => none
theorem e_revL {me : ME} {k : Nat} {p1 p2 p3 : Pos} (he : PE X e (tE X.K w me)) : PE X (.Subscript e (.Slice none none (some (.UnaryOp .USub (.Constant (.int 1) k p1) p2)) p3) pos) (tE X.K w (mOp1 fRevL me)) := by
  refine wkE (pe_revL he) fun σ H Q h => ?_
  have h1 := op1_of h
  obtain ⟨fr, F, ρ, S, h1⟩ := h1
  refine ⟨fr, F, ρ, S, h1.imp fun _ _ _ H1 u _ _ _ q => ?_⟩
  obtain ⟨F, d, r, sm, hx, hf, k⟩ := q
  unfold fRevL at hf
  split at hf
  · cases hf
    obtain ⟨p, vs, rfl, hp, ra⟩ := hx.list sm
    exact ⟨p, vs, rfl, SqL.of hp, fun l n => k _ l ra.rev n⟩
  · cases hf
end
end Pv

/-! How mirrors compute (lemmas for simp), and the law's own glue. -/
namespace Pv
open PySem PySem.Spec PyProof.Rows L2
section
variable {α γ : Type} {ρ : Rho}
@[simp] theorem bd_none {f : α → Rho → Option (Rg γ)} : bd none f = none := rfl
@[simp] theorem bS_none {f : α → Rho → Option Fl} : bS none f = none := rfl
@[simp] theorem rd_d {x : PyData} : rd (.d x) ρ = some x := rfl
@[simp] theorem rd_ol {xs : List PyData} : rd (.o (.l xs)) ρ = some (.list xs) := rfl
@[simp] theorem frz_d {x : PyData} : frz (.d x) ρ = some (x, ρ) := rfl
@[simp] theorem frz_ol {xs : List PyData} : frz (.o (.l xs)) ρ = some (.list xs, ρ) := rfl
@[simp] theorem ofVr_it {x : PyData} : ofVr (.it x) = .d x := rfl
@[simp] theorem ofVr_li {x : List PyData} : ofVr (.li x) = .o (.l x) := rfl
@[simp] theorem ofVr_tu {x : List PyData} : ofVr (.tu x) = .d (.tuple x) := rfl
@[simp] theorem bv_def {b : Bool} : bv b = some (.it (.bool b)) := rfl
/-- what a slot shows as data -/
def vwS : Sl → Option PyData
  | .d x => some x
  | .o (.l xs) => some (.list xs)
  | _ => none
@[simp] theorem vwS_d {x : PyData} : vwS (.d x) = some x := rfl
@[simp] theorem vwS_o {x : List PyData} : vwS (.o (.l x)) = some (.list x) := rfl
/-- .. is data, and not a by-reference parameter -/
def nrS : Sl → Bool
  | .r _ => false
  | _ => true
@[simp] theorem nrS_no : nrS .no = true := rfl
@[simp] theorem nrS_d {x : PyData} : nrS (.d x) = true := rfl
@[simp] theorem nrS_o {x : Oc} : nrS (.o x) = true := rfl
@[simp] theorem nrS_scr {x : List Int} : nrS (.scr x) = true := rfl
theorem nr_of_vw {s : Sl} {x : PyData} (h : vwS s = some x) : nrS s = true := by
  cases s <;> first | rfl | cases h
def NR (ρ : Rho) : Prop := ∀ s ∈ ρ, nrS s = true
theorem NR.set {ρ : Rho} {i : Nat} {s : Sl} (h : NR ρ) (hs : nrS s = true) : NR (ρ.set i s) := fun t ht => by
  rcases List.mem_or_eq_of_mem_set ht with z | z
  · exact h t z
  · exact z ▸ hs
theorem NR.at {ρ : Rho} {i : Nat} {s : Sl} (h : NR ρ) (e : ρ[i]? = some s) : nrS s = true := h s (List.mem_of_getElem? e)
/-! reading and writing slots -/
theorem mVar_d {i : Nat} {x : PyData} (h : ρ[i]? = some (.d x)) : mVar i ρ = some (.ok (.d x) ρ) := by unfold mVar; rw [h]
theorem mVar_o {i : Nat} {c : Oc} (h : ρ[i]? = some (.o c)) : mVar i ρ = some (.ok (.b i) ρ) := by unfold mVar; rw [h]
theorem mVar_r {i : Nat} {c : Oc} (h : ρ[i]? = some (.r c)) : mVar i ρ = some (.ok (.b i) ρ) := by unfold mVar; rw [h]
theorem mVar_scr {i : Nat} {c : List Int} (h : ρ[i]? = some (.scr c)) : mVar i ρ = some (.ok (.b i) ρ) := by unfold mVar; rw [h]
@[simp] theorem mVar_ap {i : Nat} : mVar i ρ = match ρ[i]? with
  | some (.d x) => some (.ok (.d x) ρ)
  | some (.o _) => some (.ok (.b i) ρ)
  | some (.r _) => some (.ok (.b i) ρ)
  | some (.scr _) => some (.ok (.b i) ρ)
  | _ => none := rfl
@[simp] theorem rd_b {i : Nat} : rd (.b i) ρ = match ρ[i]? with
    | some (.d x) => some x
    | some (.o (.l xs)) => some (.list xs)
    | some (.r (.l xs)) => some (.list xs)
    | _ => none := rfl
@[simp] theorem frz_b {i : Nat} : frz (.b i) ρ = match ρ[i]? with
    | some (.d x) => some (x, ρ)
    | some (.o (.l xs)) => some (.list xs, ρ.set i (.d (.list xs)))
    | _ => none := rfl
theorem set_same {ρ : Rho} {i : Nat} {s : Sl} (h : ρ[i]? = some s) : ρ.set i s = ρ := by
  apply List.ext_getElem? ; intro j
  rw [List.getElem?_set]
  split
  · rename_i e
    subst e
    split
    · exact h.symm
    · rename_i hl
      rw [List.getElem?_eq_none (by omega)] at h; cases h
  · rfl
/-- a variable as data, kept as such -/
theorem mFrz_var {i : Nat} {s : Sl} {x : PyData} (h : ρ[i]? = some s) (v : vwS s = some x) : mFrz (mVar i) ρ = some (.ok x (ρ.set i (.d x))) := by
  unfold mFrz
  rw [mVar_ap, h]
  cases s with
  | d y => cases v; show some _ = _; rw [set_same h]
  | o c =>
    cases c with
    | l xs => cases v; show bd _ _ = _; rw [bd_ok, frz_b, h]; rfl
    | k _ => cases v
    | t _ => cases v
  | no => cases v
  | r _ => cases v
  | scr _ => cases v
@[simp] theorem mC_ap {x : PyData} : mC x ρ = if scalar x then some (.ok (.d x) ρ) else none := rfl
@[simp] theorem sc_int {i : Int} : scalar (.int i) = true := rfl
@[simp] theorem sc_bool {i : Bool} : scalar (.bool i) = true := rfl
@[simp] theorem sc_str {i : Str} : scalar (.str i) = true := rfl
@[simp] theorem sc_none : scalar .none = true := rfl
@[simp] theorem mOp2_ap {f : PyData → PyData → Option Vr} {ma mb : ME} : mOp2 f ma mb ρ = bd (ma ρ) fun v1 ρ1 => bd (mb ρ1) fun v2 ρ2 => match rd v1 ρ2, rd v2 ρ2 with
    | some x, some y => (f x y).map fun r => .ok (ofVr r) ρ2
    | _, _ => none := rfl
@[simp] theorem mOp1_ap {f : PyData → Option Vr} {ma : ME} : mOp1 f ma ρ = bd (ma ρ) fun v1 ρ1 => match rd v1 ρ1 with
    | some x => (f x).map fun r => .ok (ofVr r) ρ1
    | none => none := rfl
@[simp] theorem mTest_ap {ma : ME} : mTest ma ρ = bd (ma ρ) fun v ρ1 => match rd v ρ1 with
  | some (.bool c) => some (.ok c ρ1)
  | _ => none := rfl
@[simp] theorem mAnd_ap {ta tb : MT} : mAnd ta tb ρ = bd (ta ρ) fun c ρ1 => if c then tb ρ1 else some (.ok false ρ1) := rfl
@[simp] theorem mOr_ap {ta tb : MT} : mOr ta tb ρ = bd (ta ρ) fun c ρ1 => if c then some (.ok true ρ1) else tb ρ1 := rfl
@[simp] theorem mNot_ap {ta : MT} : mNot ta ρ = bd (ta ρ) fun c ρ1 => some (.ok (!c) ρ1) := rfl
@[simp] theorem mIf_ap {tc : MT} {ma mb : ME} : mIf tc ma mb ρ = bd (tc ρ) fun c ρ1 => if c then ma ρ1 else mb ρ1 := rfl
@[simp] theorem mAndV_ap {ma mb : ME} : mAndV ma mb ρ = bd (mTest ma ρ) fun c ρ1 => if c then mb ρ1 else some (.ok (.d (.bool false)) ρ1) := rfl
@[simp] theorem mOrV_ap {ma mb : ME} : mOrV ma mb ρ = bd (mTest ma ρ) fun c ρ1 => if c then some (.ok (.d (.bool true)) ρ1) else mb ρ1 := rfl
@[simp] theorem mNotV_ap {ma : ME} : mNotV ma ρ = bd (mTest ma ρ) fun c ρ1 => some (.ok (.d (.bool (!c))) ρ1) := rfl
theorem chain_eq {f g : PyData → PyData → Option Vr} {ma mb mc : ME} {x y z : PyData} {b c : Bool} (ha : ma ρ = some (.ok (.d x) ρ)) (hb : mb ρ = some (.ok (.d y) ρ)) (hc : mc ρ = some (.ok (.d z) ρ)) (hf : f x y = bv b) (hg : b = true → g y z = bv c) :
    mChain f g ma mb mc ρ = some (.ok (.d (.bool (b && c))) ρ) := by
  unfold mChain
  simp only [ha, hb, bd_ok, rd_d, hf, bv_def]
  cases b with
  | false => rfl
  | true => simp only [hc, bd_ok, rd_d, hg rfl, bv_def, Option.map_some, ofVr_it, Bool.true_and]
@[simp] theorem mNil_ap : mNil ρ = some (.ok [] ρ) := rfl
@[simp] theorem mFrz_ap {me : ME} : mFrz me ρ = bd (me ρ) fun v ρ1 => (frz v ρ1).map fun p => .ok p.1 p.2 := rfl
@[simp] theorem mCons_ap {me : ME} {ms : MI} : mCons me ms ρ = bd (mFrz me ρ) fun x ρ2 => bd (ms ρ2) fun xs ρ3 => some (.ok (x :: xs) ρ3) := rfl
theorem small_line {n : Nat} (h : n ≤ 1000000) : n ≤ sizeLine := lim h
@[simp] theorem mTup_ap {ms : MI} : mTup ms ρ = bd (ms ρ) fun xs ρ1 => if xs.length ≤ sizeLine then some (.ok (.d (.tuple xs)) ρ1) else none := Eq.trans rfl rfl
@[simp] theorem mLst_ap {ms : MI} : mLst ms ρ = bd (ms ρ) fun xs ρ1 => if xs.length ≤ sizeLine then some (.ok (.o (.l xs)) ρ1) else none := Eq.trans rfl rfl
@[simp] theorem sl0 : (0 : Nat) ≤ sizeLine := lim (by decide)
@[simp] theorem sl1 : (1 : Nat) ≤ sizeLine := lim (by decide)
@[simp] theorem sl2 : (2 : Nat) ≤ sizeLine := lim (by decide)
@[simp] theorem sl3 : (3 : Nat) ≤ sizeLine := lim (by decide)
@[simp] theorem sl4 : (4 : Nat) ≤ sizeLine := lim (by decide)
@[simp] theorem sl5 : (5 : Nat) ≤ sizeLine := lim (by decide)
@[simp] theorem sl6 : (6 : Nat) ≤ sizeLine := lim (by decide)
@[simp] theorem mOpN_ap {f : List PyData → Option Vr} {ms : MI} : mOpN f ms ρ = bd (ms ρ) fun xs ρ1 => (f xs).map fun r => .ok (ofVr r) ρ1 := rfl
theorem asg_d {i : Nat} {x : PyData} {s : Sl} (h : ρ[i]? = some s) (n : nrS s = true) : asg i (.d x) ρ = some (ρ.set i (.d x)) := by
  unfold asg
  rw [h]
  cases s <;> first | rfl | cases n
theorem asg_o {i : Nat} {c : Oc} {s : Sl} (h : ρ[i]? = some s) (n : nrS s = true) : asg i (.o c) ρ = some (ρ.set i (.o c)) := by
  unfold asg
  rw [h]
  cases s <;> first | rfl | cases n
@[simp] theorem asg_dS {i : Nat} {x : PyData} : asg i (.d x) ρ = if ρ[i]?.map nrS = some true then some (ρ.set i (.d x)) else none := by
  unfold asg
  cases ρ[i]? with
  | none => rfl
  | some s => cases s <;> rfl
@[simp] theorem asg_oS {i : Nat} {x : Oc} : asg i (.o x) ρ = if ρ[i]?.map nrS = some true then some (ρ.set i (.o x)) else none := by
  unfold asg
  cases ρ[i]? with
  | none => rfl
  | some s => cases s <;> rfl
@[simp] theorem asg_bS {i j : Nat} : asg i (.b j) ρ = if ρ[i]?.map nrS = some true then (match ρ[j]? with
      | some (.d x) => some (ρ.set i (.d x))
      | some (.scr ns) => some (ρ.set i (.scr ns))
      | some (.o c) => if i = j then none else some ((ρ.set j .no).set i (.o c))
      | _ => none) else none := by
  unfold asg
  cases ρ[i]? with
  | none => rfl
  | some s => cases s <;> rfl
@[simp] theorem mPass_ap : mPass ρ = some (.nx ρ) := rfl
@[simp] theorem mSeq_ap {m1 m2 : MS} : mSeq m1 m2 ρ = match m1 ρ with
  | some (.nx ρ1) => m2 ρ1
  | r => r := rfl
theorem mSeq_nx {m1 m2 : MS} {ρ1 : Rho} (h : m1 ρ = some (.nx ρ1)) : mSeq m1 m2 ρ = m2 ρ1 := by unfold mSeq; rw [h]
@[simp] theorem mIfS_ap {tc : MT} {m1 m2 : MS} : mIfS tc m1 m2 ρ = bS (tc ρ) fun c ρ1 => if c then m1 ρ1 else m2 ρ1 := rfl
@[simp] theorem mSet_ap {i : Nat} {me : ME} : mSet i me ρ = bS (me ρ) fun v ρ1 => (asg i v ρ1).map .nx := rfl
@[simp] theorem retv_d {x : PyData} : retv (.d x) ρ = some (.rt (.d x) ρ) := rfl
@[simp] theorem retv_o {x : Oc} : retv (.o x) ρ = some (.rt (.o x) ρ) := rfl
@[simp] theorem retv_b {i : Nat} : retv (.b i) ρ = match ρ[i]? with
    | some (.d x) => some (.rt (.d x) ρ)
    | some (.o c) => some (.rt (.o c) (ρ.set i .no))
    | _ => none := rfl
@[simp] theorem mRet_ap {me : ME} : mRet me ρ = bS (me ρ) fun v ρ1 => retv v ρ1 := rfl
@[simp] theorem mExp_ap {me : ME} : mExp me ρ = bS (me ρ) fun _ ρ1 => some (.nx ρ1) := rfl
@[simp] theorem mNever_ap : mNever ρ = none := rfl
@[simp] theorem gNm_ap {i : Nat} {x : PyData} : gNm i x ρ = asg i (.d x) ρ := rfl
@[simp] theorem gsNil_ap : gsNil [] ρ = some ρ := rfl
@[simp] theorem gsCons_ap {g : MG} {gs : MGs} {x : PyData} {r : List PyData} : gsCons g gs (x :: r) ρ = (g x ρ).bind (gs r) := rfl
@[simp] theorem gTp_ap {n : Nat} {gs : MGs} {xs : List PyData} : gTp n gs (.tuple xs) ρ = if xs.length = n then gs xs ρ else none := rfl
@[simp] theorem mAsgT_ap {g : MG} {me : ME} : mAsgT g me ρ = bS (mFrz me ρ) fun x ρ1 => (g x ρ1).map .nx := rfl
@[simp] theorem mFor_ap {mi : MI} {g : MG} {b : MS} : mFor mi g b ρ = bS (mi ρ) fun xs ρ1 => loopF g b xs ρ1 := rfl
@[simp] theorem wipeR_nil : wipeR ρ [] = ρ := rfl
@[simp] theorem wipeR_cons {k : Nat} {vs : List Nat} : wipeR ρ (k :: vs) = (wipeR ρ vs).set k .no := rfl
@[simp] theorem mYes_ap : mYes ρ = some (.ok true ρ) := rfl
@[simp] theorem mPart_ap {me : ME} : mPart me ρ = bd (me ρ) fun v ρ1 => match rd v ρ1 with
  | some (.int i) => some (.ok (some i) ρ1)
  | _ => none := rfl
@[simp] theorem mNoPart_ap : mNoPart ρ = some (.ok none ρ) := rfl
@[simp] theorem mSlice_ap {me : ME} {ml mh : Rho → Option (Rg (Option Int))} : mSlice me ml mh ρ = bd (me ρ) fun v ρ1 => bd (ml ρ1) fun lo ρ2 => bd (mh ρ2) fun hi ρ3 => match rd v ρ3 with
  | some x => (fSl lo hi x).map fun r => .ok (ofVr r) ρ3
  | none => none := rfl
@[simp] theorem mIter_ap {me : ME} : mIter me ρ = bd (mFrz me ρ) fun x ρ1 => (itemsOf x).map fun xs => .ok xs ρ1 := rfl
@[simp] theorem items_l {xs : List PyData} : itemsOf (.list xs) = some xs := rfl
@[simp] theorem items_t {xs : List PyData} : itemsOf (.tuple xs) = some xs := rfl
@[simp] theorem items_s {l : List Nat} : itemsOf (.str (mkS l)) = some (l.map fun c => tx [c]) := rfl
def rngR (n : Int) (ρ : Rho) : Option (Rg (List PyData)) := if n.natAbs ≤ 1000000 then some (.ok ((List.range n.toNat).map fun k => .int (k : Nat)) ρ) else none
theorem rngR_eq (n : Nat) {i : Int} (h : i = n) (hn : n ≤ 1000000) (ρ : Rho) : rngR i ρ = some (.ok ((List.range n).map fun k => .int (k : Nat)) ρ) := by
  unfold rngR
  rw [if_pos (by omega), h, Int.toNat_natCast]
def rngR2 (a b : Int) (ρ : Rho) : Option (Rg (List PyData)) := if a.natAbs ≤ 1000000 ∧ b.natAbs ≤ 1000000 then some (.ok ((List.range (b - a).toNat).map fun k => .int (a + (k : Nat))) ρ) else none
theorem rngR2_eq (m n : Nat) {a b : Int} (ha : a = m) (hb : b = n) (hm : m ≤ 1000000) (hn : n ≤ 1000000) (ρ : Rho) : rngR2 a b ρ = some (.ok ((List.range (n - m)).map fun k => .int ((m + k : Nat) : Int)) ρ) := by
  unfold rngR2
  rw [if_pos (by omega), ha, hb, show ((n : Int) - (m : Int)).toNat = n - m by omega]
  rfl
@[simp] theorem mRange1_ap {ms : MI} : mRange1 ms ρ = bd (ms ρ) fun xs ρ1 => match xs with
  | [.int n] => rngR n ρ1
  | _ => none := Eq.trans rfl rfl
@[simp] theorem mRange2_ap {ms : MI} : mRange2 ms ρ = bd (ms ρ) fun xs ρ1 => match xs with
  | [.int a, .int b] => rngR2 a b ρ1
  | _ => none := Eq.trans rfl rfl
@[simp] theorem mEnum_ap {ms : MI} : mEnum ms ρ = bd (ms ρ) fun xs ρ1 => match xs with
  | [.list ys] => some (.ok (enumD 0 ys) ρ1)
  | [.str z] => some (.ok (enumD 0 ((sL z).map fun c => tx [c])) ρ1)
  | _ => none := rfl
@[simp] theorem mZip_ap {ms : MI} : mZip ms ρ = bd (ms ρ) fun xs ρ1 => match xs with
  | [.str x, .str y] => some (.ok (zipD (sL x) (sL y)) ρ1)
  | _ => none := rfl
@[simp] theorem mMth_ap {T : String} {f : PyData → List PyData → Option Vr} {mo : ME} {ms : MI} : mMth T f mo ms ρ = bd (mo ρ) fun v ρ1 => match rd v ρ1 with
  | some x0 => if tyN x0 = T then bd (ms ρ1) fun xs ρ2 => match rd v ρ2 with
      | some x => (f x xs).map fun r => .ok (ofVr r) ρ2
      | none => none
    else none
  | none => none := rfl
@[simp] theorem tyN_str {z : Str} : tyN (.str z) = "str" := rfl
@[simp] theorem tyN_list {z : List PyData} : tyN (.list z) = "list" := rfl
@[simp] theorem getOc_ap {i : Nat} : getOc ρ i = match ρ[i]? with
  | some (.o c) => some c
  | some (.r c) => some c
  | _ => none := rfl
@[simp] theorem setOc_ap {i : Nat} {c : Oc} : setOc ρ i c = match ρ[i]? with
  | some (.o _) => ρ.set i (.o c)
  | some (.r _) => ρ.set i (.r c)
  | _ => ρ := rfl
@[simp] theorem mApp_ap {i : Nat} {me : ME} : mApp i me ρ = match getOc ρ i with
  | some (.l _) => bd (mFrz me ρ) fun y ρ1 => match getOc ρ1 i with
    | some (.l xs) => if xs.length < 1000000 then some (.ok (.d .none) (setOc ρ1 i (.l (xs ++ [y])))) else none
    | _ => none
  | _ => none := Eq.trans rfl rfl
@[simp] theorem mPop_ap {i : Nat} {me : ME} : mPop i me ρ = match getOc ρ i with
  | some (.l _) => bd (me ρ) fun v ρ1 => match rd v ρ1, getOc ρ1 i with
    | some (.int j), some (.l xs) => match xs[j.toNat]? with
      | some y => if 0 ≤ j ∧ xs.length ≤ 1000000 then some (.ok (.d y) (setOc ρ1 i (.l (xs.eraseIdx j.toNat)))) else none
      | none => none
    | _, _ => none
  | _ => none := Eq.trans rfl rfl
@[simp] theorem mSetIx_ap {i : Nat} {mi me : ME} : mSetIx i mi me ρ = bS (mFrz me ρ) fun y ρ1 => match getOc ρ1 i with
  | some (.l _) => bS (mi ρ1) fun v ρ2 => match rd v ρ2, getOc ρ2 i with
    | some (.int j), some (.l xs) => match ixN xs.length j with
      | some n => some (.nx (setOc ρ2 i (.l (xs.set n y))))
      | none => none
    | _, _ => none
  | _ => none := Eq.trans rfl rfl
@[simp] theorem mDNewK_ap : mDNewK ρ = some (.ok (.o (.k [])) ρ) := rfl
@[simp] theorem mDNewT_ap : mDNewT ρ = some (.ok (.o (.t [])) ρ) := rfl
@[simp] theorem mDGet_ap {i : Nat} {mk : ME} : mDGet i mk ρ = match getOc ρ i with
  | some _ => bd (mk ρ) fun v ρ1 => match rd v ρ1, getOc ρ1 i with
    | some x, some c => match dGet c x with
      | some (some y) => some (.ok (.d y) ρ1)
      | _ => none
    | _, _ => none
  | none => none := rfl
@[simp] theorem mDGet2_ap {i : Nat} {mk mx : ME} : mDGet2 i mk mx ρ = match getOc ρ i with
  | some c0 => if isDk c0 = true then bd (mFrz mk ρ) fun kx ρ1 => bd (mFrz mx ρ1) fun dx ρ2 => match getOc ρ2 i with
      | some c => match dGet c kx with
        | some r => some (.ok (.d (r.getD dx)) ρ2)
        | none => none
      | none => none
    else none
  | none => none := rfl
@[simp] theorem mDPut_ap {i : Nat} {mk mv : ME} : mDPut i mk mv ρ = bS (mFrz mv ρ) fun y ρ1 => match getOc ρ1 i with
  | some _ => bS (mk ρ1) fun kv ρ2 => match rd kv ρ2, getOc ρ2 i with
    | some x, some c => match dPut c x y with
      | some c' => some (.nx (setOc ρ2 i c'))
      | none => none
    | _, _ => none
  | none => none := Eq.trans rfl rfl
@[simp] theorem isB_d {i : Nat} {x : PyData} : isB i (.d x) = false := rfl
@[simp] theorem isB_o {i : Nat} {x : Oc} : isB i (.o x) = false := rfl
@[simp] theorem isB_b {i j : Nat} : isB i (.b j) = (i == j) := rfl
@[simp] theorem mPar2_ap {i j : Nat} {ma mb : ME} : mPar2 i j ma mb ρ = bS (ma ρ) fun v1 ρ1 => bS (mb ρ1) fun v2 ρ2 => if isB i v2 = true then none else match asg i v1 ρ2 with
  | some ρ3 => (asg j v2 ρ3).map .nx
  | none => none := rfl
@[simp] theorem mPar3_ap {i j l : Nat} {ma mb mc : ME} : mPar3 i j l ma mb mc ρ = bS (ma ρ) fun v1 ρ1 => bS (mb ρ1) fun v2 ρ2 => bS (mc ρ2) fun v3 ρ3 => if isB i v2 = true ∨ isB i v3 = true ∨ isB j v3 = true then none else match asg i v1 ρ3 with
  | some ρ4 => match asg j v2 ρ4 with
    | some ρ5 => (asg l v3 ρ5).map .nx
    | none => none
  | none => none := rfl
/-! calls -/
@[simp] theorem mANil_ap : mANil ρ = some (.ok [] ρ) := rfl
@[simp] theorem mACons_ap {br : Bool} {me : ME} {ms : MAv} : mACons br me ms ρ = bd (mAv br me ρ) fun x ρ2 => bd (ms ρ2) fun xs ρ3 => some (.ok (x :: xs) ρ3) := rfl
@[simp] theorem mAv_f {me : ME} : mAv false me ρ = bd (me ρ) fun v ρ1 => (frz v ρ1).map fun p => .ok (.d p.1) p.2 := rfl
@[simp] theorem mAv_t {me : ME} : mAv true me ρ = bd (me ρ) fun v ρ1 => match v with
  | .b i => some (.ok (.b i) ρ1)
  | v => (frz v ρ1).map fun p => .ok (.d p.1) p.2 := by
  unfold mAv
  cases me ρ with
  | none => rfl
  | some r =>
    cases r with
    | ok v ρ1 => cases v <;> rfl
    | er x ρ1 => rfl
@[simp] theorem mCall_ap {m : MF} {ms : MAv} : mCall m ms ρ = bd (ms ρ) fun as ρ1 => match argSls ρ1 as with
  | none => none
  | some ρc => match m ρc with
    | some (.ok (.d x) ρc') => some (.ok (.d x) (backR ρ1 as ρc'))
    | some (.ok (.o c) ρc') => some (.ok (.o c) (backR ρ1 as ρc'))
    | some (.er x ρc') => some (.er x (backR ρ1 as ρc'))
    | _ => none := rfl
@[simp] theorem argSls_nil : argSls ρ [] = some [] := rfl
@[simp] theorem argTl_nil : argTl ρ [] = some [] := rfl
@[simp] theorem argSls_d {x : PyData} {as : List Av} : argSls ρ (.d x :: as) = (argTl ρ as).map (.d x :: ·) := by
  show (match some (Sl.d x), argTl ρ as with
    | some s, some r => some (s :: r)
    | _, _ => none) = _
  cases argTl ρ as <;> rfl
@[simp] theorem argTl_d {x : PyData} {as : List Av} : argTl ρ (.d x :: as) = (argTl ρ as).map (.d x :: ·) := by
  show (match some (Sl.d x), argTl ρ as with
    | some s, some r => some (s :: r)
    | _, _ => none) = _
  cases argTl ρ as <;> rfl
@[simp] theorem argSls_b {i : Nat} {as : List Av} : argSls ρ (.b i :: as) = (match ρ[i]? with
    | some (.o c) => some (Sl.r c)
    | some (.r c) => some (Sl.r c)
    | some (.d x) => some (Sl.d x)
    | some (.scr ns) => some (Sl.scr ns)
    | _ => none).bind fun s => (argTl ρ as).map (s :: ·) := by
  show (match argSl0 ρ (.b i), argTl ρ as with
    | some s, some r => some (s :: r)
    | _, _ => none) = _
  unfold argSl0
  cases h : ρ[i]? with
  | none => simp [h]
  | some s => cases s <;> simp [h] <;> cases argTl ρ as <;> rfl
@[simp] theorem argTl_b {i : Nat} {as : List Av} : argTl ρ (.b i :: as) = (match ρ[i]? with
    | some (.d x) => some (Sl.d x)
    | some (.scr ns) => some (Sl.scr ns)
    | _ => none).bind fun s => (argTl ρ as).map (s :: ·) := by
  show (match argSl1 ρ (.b i), argTl ρ as with
    | some s, some r => some (s :: r)
    | _, _ => none) = _
  unfold argSl1
  cases h : ρ[i]? with
  | none => simp [h]
  | some s => cases s <;> simp [h] <;> cases argTl ρ as <;> rfl
@[simp] theorem backR_nil {ρc : Rho} : backR ρ [] ρc = ρ := rfl
@[simp] theorem backR_d {ρc : Rho} {x : PyData} {as : List Av} : backR ρ (.d x :: as) ρc = ρ := rfl
@[simp] theorem backR_b {ρc : Rho} {i : Nat} {as : List Av} : backR ρ (.b i :: as) ρc = match ρ[i]? with
    | some (.o _) => ρ.set i (match ρc[0]? with
      | some (Sl.r c) => Sl.o c
      | _ => Sl.no)
    | some (.r _) => ρ.set i (match ρc[0]? with
      | some (Sl.r c) => Sl.r c
      | _ => Sl.no)
    | _ => ρ := rfl
@[simp] theorem finF_d {n : Nat} {x : PyData} : finF n (some (.rt (.d x) ρ)) = some (.ok (.d x) (keepR n ρ)) := rfl
@[simp] theorem finF_o {n : Nat} {x : Oc} : finF n (some (.rt (.o x) ρ)) = some (.ok (.o x) (keepR n ρ)) := rfl
@[simp] theorem finF_nx {n : Nat} : finF n (some (.nx ρ)) = some (.ok (.d .none) (keepR n ρ)) := rfl
@[simp] theorem noEr_ok {v : Ev} : noEr (some (.ok v ρ)) = some (.ok v ρ) := rfl
theorem mFun0_ap {n k : Nat} {b : MS} : mFun0 n k b ρ = noEr (finF n (b (ρ ++ List.replicate (k - n) .no))) := rfl
theorem keepR_succ {n : Nat} : keepR (n + 1) ρ = keepR n ρ ++ [match ρ[n]? with
  | some (Sl.r c) => Sl.r c
  | _ => Sl.no] := by
  unfold keepR
  rw [List.range_succ, List.map_append]
  rfl
@[simp] theorem keepR_0 : keepR 0 ρ = [] := rfl
@[simp] theorem keepR_1 : keepR 1 ρ = [match ρ[0]? with
  | some (Sl.r c) => Sl.r c
  | _ => Sl.no] := rfl
@[simp] theorem keepR_2 : keepR 2 ρ = [match ρ[0]? with
  | some (Sl.r c) => Sl.r c
  | _ => Sl.no, match ρ[1]? with
  | some (Sl.r c) => Sl.r c
  | _ => Sl.no] := rfl
@[simp] theorem keepR_3 : keepR 3 ρ = [match ρ[0]? with
  | some (Sl.r c) => Sl.r c
  | _ => Sl.no, match ρ[1]? with
  | some (Sl.r c) => Sl.r c
  | _ => Sl.no, match ρ[2]? with
  | some (Sl.r c) => Sl.r c
  | _ => Sl.no] := rfl
@[simp] theorem keepR_4 : keepR 4 ρ = [match ρ[0]? with
  | some (Sl.r c) => Sl.r c
  | _ => Sl.no, match ρ[1]? with
  | some (Sl.r c) => Sl.r c
  | _ => Sl.no, match ρ[2]? with
  | some (Sl.r c) => Sl.r c
  | _ => Sl.no, match ρ[3]? with
  | some (Sl.r c) => Sl.r c
  | _ => Sl.no] := rfl
@[simp] theorem keepR_5 : keepR 5 ρ = [match ρ[0]? with
  | some (Sl.r c) => Sl.r c
  | _ => Sl.no, match ρ[1]? with
  | some (Sl.r c) => Sl.r c
  | _ => Sl.no, match ρ[2]? with
  | some (Sl.r c) => Sl.r c
  | _ => Sl.no, match ρ[3]? with
  | some (Sl.r c) => Sl.r c
  | _ => Sl.no, match ρ[4]? with
  | some (Sl.r c) => Sl.r c
  | _ => Sl.no] := rfl
end
/-! values -/
@[simp] theorem fAdd_i {a b : Int} : fAdd (.int a) (.int b) = some (.it (.int (a + b))) := rfl
@[simp] theorem fAdd_s {a b : List Nat} : fAdd (tx a) (tx b) = if a.length + b.length ≤ 1000000 then some (.it (tx (a ++ b))) else none := Eq.trans rfl rfl
@[simp] theorem fAdd_l {a b : List PyData} : fAdd (.list a) (.list b) = if a.length + b.length ≤ 1000000 then some (.li (a ++ b)) else none := Eq.trans rfl rfl
@[simp] theorem fSub_i {a b : Int} : fSub (.int a) (.int b) = some (.it (.int (a - b))) := rfl
@[simp] theorem fMul_i {a b : Int} : fMul (.int a) (.int b) = if a.natAbs < 2 ^ 64 ∨ b.natAbs < 2 ^ 64 then some (.it (.int (a * b))) else none := Eq.trans rfl rfl
theorem fMul_s {a : List Nat} (n : Nat) {b : Int} (hb : b = n) (hn : n ≤ 1000000) (h : a.length * n ≤ 1000000) : fMul (tx a) (.int b) = some (.it (tx (List.replicate n a).flatten)) := by
  show (if b.natAbs ≤ 1000000 ∧ a.length * b.toNat ≤ 1000000 then some (Vr.it (tx (List.replicate b.toNat a).flatten)) else none) = _
  rw [hb, Int.toNat_natCast, if_pos ⟨by omega, h⟩]
@[simp] theorem fDiv_i {a b : Int} : fDiv (.int a) (.int b) = if 0 < b ∧ b.natAbs < 1073741824 then some (.it (.int (a / b))) else none := Eq.trans rfl rfl
@[simp] theorem fMod_i {a b : Int} : fMod (.int a) (.int b) = if 0 < b then some (.it (.int (a % b))) else none := Eq.trans rfl rfl
@[simp] theorem fPow_i {a b : Int} : fPow (.int a) (.int b) = if 0 ≤ b ∧ b ≤ 1000 ∧ a.natAbs < 1000 then some (.it (.int (a ^ b.toNat))) else none := Eq.trans rfl rfl
@[simp] theorem fNeg_i {a : Int} : fNeg (.int a) = some (.it (.int (-a))) := rfl
@[simp] theorem fEq_i {a b : Int} : fEq (.int a) (.int b) = some (.it (.bool (decide (a = b)))) := rfl
@[simp] theorem fEq_s {a b : List Nat} : fEq (tx a) (tx b) = some (.it (.bool (decide (a = b)))) := rfl
@[simp] theorem fNe_i {a b : Int} : fNe (.int a) (.int b) = some (.it (.bool (!decide (a = b)))) := rfl
@[simp] theorem fNe_s {a b : List Nat} : fNe (tx a) (tx b) = some (.it (.bool (!decide (a = b)))) := rfl
@[simp] theorem fCmp_i {fi : Int → Int → Bool} {fs : List Nat → List Nat → Bool} {a b : Int} : fCmp fi fs (.int a) (.int b) = some (.it (.bool (fi a b))) := rfl
@[simp] theorem fCmp_s {fi : Int → Int → Bool} {fs : List Nat → List Nat → Bool} {a b : List Nat} : fCmp fi fs (tx a) (tx b) = some (.it (.bool (fs a b))) := rfl
@[simp] theorem fIs_n {x : PyData} : fIs x .none = some (.it (.bool (isNone x))) := by cases x <;> rfl
@[simp] theorem fIsNot_n {x : PyData} : fIsNot x .none = some (.it (.bool (!isNone x))) := by cases x <;> rfl
@[simp] theorem isNone_n : isNone .none = true := rfl
@[simp] theorem isNone_i {a : Int} : isNone (.int a) = false := rfl
@[simp] theorem fIn_s {c : Nat} {b : List Nat} : fIn (tx [c]) (tx b) = some (.it (.bool (decide (c ∈ b)))) := rfl
@[simp] theorem fNotIn_s {c : Nat} {b : List Nat} : fNotIn (tx [c]) (tx b) = some (.it (.bool (!decide (c ∈ b)))) := rfl
@[simp] theorem fIx_l {xs : List PyData} {i : Int} : fIx (.list xs) (.int i) = (atI xs i).map .it := rfl
@[simp] theorem fIx_t {xs : List PyData} {i : Int} : fIx (.tuple xs) (.int i) = (atI xs i).map .it := rfl
@[simp] theorem fIx_s {xs : List Nat} {i : Int} : fIx (tx xs) (.int i) = if xs.length ≤ 1000000 then (atI xs i).map fun c => .it (tx [c]) else none := Eq.trans rfl rfl
@[simp] theorem fLen_s {l : List Nat} : fLen (tx l) = if l.length ≤ 1000000 then some (.it (.int l.length)) else none := Eq.trans rfl rfl
@[simp] theorem fLen_l {l : List PyData} : fLen (.list l) = some (.it (.int l.length)) := rfl
@[simp] theorem fLen_t {l : List PyData} : fLen (.tuple l) = some (.it (.int l.length)) := rfl
@[simp] theorem fAbs_i {a : Int} : fAbs (.int a) = some (.it (.int (if a < 0 then -a else a))) := rfl
@[simp] theorem fMin2_i {a b : Int} : fMin2 [.int a, .int b] = some (.it (.int (if b < a then b else a))) := rfl
@[simp] theorem fMax2_i {a b : Int} : fMax2 [.int a, .int b] = some (.it (.int (if a < b then b else a))) := rfl
@[simp] theorem isi_int_i {a : Int} : fIsi "int" (.int a) = some (.it (.bool true)) := rfl
@[simp] theorem isi_bool_i {a : Int} : fIsi "bool" (.int a) = some (.it (.bool false)) := rfl
@[simp] theorem isi_str_s {a : Str} : fIsi "str" (.str a) = some (.it (.bool true)) := rfl
@[simp] theorem intsOf_mapF {α : Type} {f : α → Int} : ∀ {l : List α}, intsOf (l.map fun i => .int (f i)) = some (l.map f)
  | [] => rfl
  | x :: r => by
    show (intsOf (r.map fun i => .int (f i))).map (f x :: ·) = _
    rw [intsOf_mapF]; rfl
@[simp] theorem blsOf_mapF {α : Type} {f : α → Bool} : ∀ {l : List α}, blsOf (l.map fun i => .bool (f i)) = some (l.map f)
  | [] => rfl
  | x :: r => by
    show (blsOf (r.map fun i => .bool (f i))).map (f x :: ·) = _
    rw [blsOf_mapF]; rfl
@[simp] theorem strsOf_mapF {α : Type} {f : α → List Nat} : ∀ {l : List α}, strsOf (l.map fun i => tx (f i)) = some (l.map f)
  | [] => rfl
  | x :: r => by
    show (strsOf (r.map fun i => tx (f i))).map (f x :: ·) = _
    rw [strsOf_mapF]; rfl
@[simp] theorem fAll_map {α : Type} {f : α → Bool} {l : List α} : fAll (.list (l.map fun i => .bool (f i))) = some (.it (.bool (l.all f))) := by
  show (blsOf (l.map fun i => .bool (f i))).map _ = _
  rw [blsOf_mapF]
  show some (Vr.it (.bool ((l.map f).all id))) = _
  rw [List.all_map]; rfl
@[simp] theorem fSum_map {α : Type} {f : α → Int} {l : List α} : fSum (.list (l.map fun i => .int (f i))) = some (.it (.int (l.map f).sum)) := by
  show (intsOf (l.map fun i => .int (f i))).map _ = _
  rw [intsOf_mapF]; rfl
/-! a comprehension: filter and map -/
theorem compF_map {α : Type} {g : MG} {t : MT} {me : ME} {vs : List Nat} {ρ0 : Rho} (q : α → PyData) (r : α → Rho) (p : α → Bool) (f : α → PyData) : ∀ (xs : List α) (acc : List PyData),
    (∀ x ∈ xs, g (q x) ρ0 = some (r x) ∧ t (r x) = some (.ok (p x) (r x)) ∧ (p x = true → mFrz me (r x) = some (.ok (f x) (r x))) ∧ wipeR (r x) vs = ρ0) →
    compF g t me vs (xs.map q) acc ρ0 = some (.ok (acc ++ (xs.filter p).map f) ρ0)
  | [], acc, _ => by simp [compF]
  | x :: xs, acc, h => by
    obtain ⟨h1, h2, h3, h4⟩ := h x (List.mem_cons_self ..)
    have ih := fun acc' => compF_map q r p f xs acc' fun y hy => h y (List.mem_cons_of_mem _ hy)
    show (match g (q x) ρ0 with
      | none => none
      | some ρ1 => bd (t ρ1) fun c ρ2 => if c then bd (mFrz me ρ2) fun y ρ3 => compF g t me vs (xs.map q) (acc ++ [y]) (wipeR ρ3 vs) else compF g t me vs (xs.map q) acc (wipeR ρ2 vs)) = _
    rw [h1]
    show bd (t (r x)) _ = _
    rw [h2, bd_ok]
    cases hp : p x with
    | false =>
      rw [if_neg (by decide), h4, ih, List.filter_cons_of_neg (by rw [hp]; decide)]
    | true =>
      rw [if_pos rfl, h3 hp, bd_ok, h4, ih, List.filter_cons_of_pos hp, List.map_cons, List.append_assoc]
      rfl
theorem mLc_map {α : Type} {mi : MI} {g : MG} {t : MT} {me : ME} {vs : List Nat} {ρ ρ1 : Rho} {xs : List α} (q : α → PyData) (r : α → Rho) (p : α → Bool) (f : α → PyData) (hi : mi ρ = some (.ok (xs.map q) ρ1)) (hl : xs.length ≤ 1000000)
    (h : ∀ x ∈ xs, g (q x) (wipeR ρ1 vs) = some (r x) ∧ t (r x) = some (.ok (p x) (r x)) ∧ (p x = true → mFrz me (r x) = some (.ok (f x) (r x))) ∧ wipeR (r x) vs = wipeR ρ1 vs) :
    mLc mi g t me vs ρ = some (.ok (.o (.l ((xs.filter p).map f))) (wipeR ρ1 vs)) := by
  unfold mLc
  rw [hi, bd_ok, if_pos (by rw [List.length_map]; exact lim hl), compF_map q r p f xs [] h]
  rfl
/-! loops -/
theorem loopF_nil {g : MG} {b : MS} {ρ : Rho} : loopF g b [] ρ = some (.nx ρ) := rfl
theorem loopF_cons {g : MG} {b : MS} {ρ ρ1 ρ2 : Rho} {x : PyData} {xs : List PyData} (h1 : g x ρ = some ρ1) (h2 : b ρ1 = some (.nx ρ2)) : loopF g b (x :: xs) ρ = loopF g b xs ρ2 := by
  show (match g x ρ with
    | none => none
    | some ρ1 => match b ρ1 with
      | some (.nx ρ2) => loopF g b xs ρ2
      | some (.ct ρ2) => loopF g b xs ρ2
      | some (.bk ρ2) => some (.nx ρ2)
      | r => r) = _
  rw [h1]
  show (match b ρ1 with
      | some (.nx ρ2) => loopF g b xs ρ2
      | some (.ct ρ2) => loopF g b xs ρ2
      | some (.bk ρ2) => some (.nx ρ2)
      | r => r) = _
  rw [h2]
/-- a loop that runs to its end, its invariant told by what has gone by -/
theorem loopF_inv {α : Type} {g : MG} {b : MS} (q : α → PyData) (I : List α → Rho → Prop) : ∀ (xs pre : List α) (ρ : Rho), I pre ρ →
    (∀ pre x ρ, x ∈ xs → I pre ρ → ∃ ρ1 ρ2, g (q x) ρ = some ρ1 ∧ b ρ1 = some (.nx ρ2) ∧ I (pre ++ [x]) ρ2) → ∃ ρ', loopF g b (xs.map q) ρ = some (.nx ρ') ∧ I (pre ++ xs) ρ'
  | [], pre, ρ, h, _ => ⟨ρ, rfl, by rw [List.append_nil]; exact h⟩
  | x :: xs, pre, ρ, h, st => by
    obtain ⟨ρ1, ρ2, e1, e2, h2⟩ := st pre x ρ (List.mem_cons_self ..) h
    obtain ⟨ρ', e, h'⟩ := loopF_inv q I xs (pre ++ [x]) ρ2 h2 fun p y r hy => st p y r (List.mem_cons_of_mem _ hy)
    refine ⟨ρ', ?_, by rw [List.append_assoc] at h'; exact h'⟩
    rw [List.map_cons, loopF_cons e1 e2, e]
/-- .. without it -/
theorem loopF_inv0 {α : Type} {g : MG} {b : MS} (q : α → PyData) (I : Rho → Prop) {xs : List α} {ρ : Rho} (h : I ρ) (st : ∀ x ρ, x ∈ xs → I ρ → ∃ ρ1 ρ2, g (q x) ρ = some ρ1 ∧ b ρ1 = some (.nx ρ2) ∧ I ρ2) :
    ∃ ρ', loopF g b (xs.map q) ρ = some (.nx ρ') ∧ I ρ' :=
  loopF_inv q (fun _ => I) xs [] ρ h fun _ x r hx hr => st x r hx hr
/-! the law -/
def noTup (H : Hp) : Hp := fun b => match H b with
  | some (.tup _) => none
  | some (.tbl _) => none
  | x => x
theorem noTup_nt (H : Hp) : ∀ b vs, noTup H b ≠ some (.tup vs) := fun b vs e => by
  unfold noTup at e
  split at e
  · cases e
  · cases e
  · rename_i h _; exact h vs e
theorem noTup_nq (H : Hp) : ∀ b ps, noTup H b ≠ some (.tbl ps) := fun b ps e => by
  unfold noTup at e
  split at e
  · cases e
  · cases e
  · rename_i h; exact h ps e
theorem noTup_same (H : Hp) : Same (noTup H) H := fun b o e => by
  unfold noTup at e
  split at e
  · cases e
  · cases e
  · exact e
theorem noTup_sq {K : PySem.W.Frag} {H : Hp} {a : Addr} {xs : List V} (h : SqL K H a xs) : SqL K (noTup H) a xs := by
  rcases h with h | h
  · rcases h with h | ⟨o, h⟩
    · exact .inl (.inl (by unfold noTup; rw [h]))
    · exact .inl (.inr ⟨o, by unfold noTup; rw [h]⟩)
  · exact .inr h
/-- the law's promise, with the tables of code objects T -/
def spLawT (K : PySem.W.Frag) : Sp := fun vs H Q _ => ∃ (a : Addr) (ns : List Int), vs = [.ref a] ∧ SqL K H a (ns.map V.int) ∧ ns.length ≤ 63 ∧ LamX.Tabs (tabsOf K) H ∧ ∀ H', Q (.bl true) H'
def spLaw (K : PySem.W.Frag) : Sp := fun vs H Q _ => ∃ (a : Addr) (ns : List Int), vs = [.ref a] ∧ SqL K H a (ns.map V.int) ∧ ns.length ≤ 63 ∧ ∀ H', Q (.bl true) H'
theorem law_spT {P : Program} {w : World} {K : PySem.W.Frag} {mg : Str → Option Value} {base : Heap} {CX : CXT} {k : Nat} {f : Addr} {fd : FuncData} {ps : List Str} {m : MF} {XR : XRT} (F : FnOk P w K mg base CX k f fd ps (spF K XR 1 m))
    (hm : ∀ ns : List Int, ns.length ≤ 63 → ∃ ρ, m [.scr ns] = some (.ok (.d (.bool true)) ρ)) : FnOk P w K mg base CX k f fd ps (spLawT K) :=
  F.imp fun vs H Q E ⟨a, ns, hv, hs, hl, ht, hq⟩ => by
    obtain ⟨ρ', e⟩ := hm ns hl
    subst hv
    refine ⟨rfl, ⟨noTup H, fun _ => none, fun a' ns' => SqL K H a' (ns'.map V.int), noTup_nt H, noTup_nq H⟩, fun _ => none, [.scr ns], (fun _ _ h => by cases h), ⟨rfl, fun _ _ h => (by cases h), noTup_same H, fun _ _ _ => rfl, fun _ _ h => noTup_sq h, fun i s h => ?_, fun i j p o1 _ _ _ => ?_, ⟨ht, fun _ _ h => by cases h⟩⟩, ?_⟩
    · match i, h with
      | 0, h => cases h; exact ⟨a, rfl, hs⟩
      | i + 1, h => cases h
    · obtain ⟨c, z | z⟩ := o1
      · match i, z with
        | 0, z => cases z
        | i + 1, z => cases z
      · match i, z with
        | 0, z => cases z
        | i + 1, z => cases z
    · rw [e]
      intro F' H' b _ _ r
      cases r
      exact hq H'
theorem law_sp {P : Program} {w : World} {K : PySem.W.Frag} {mg : Str → Option Value} {base : Heap} {CX : CXT} {k : Nat} {f : Addr} {fd : FuncData} {ps : List Str} {m : MF} {XR : XRT} (F : FnOk P w K mg base CX k f fd ps (spF K XR 1 m))
    (hm : ∀ ns : List Int, ns.length ≤ 63 → ∃ ρ, m [.scr ns] = some (.ok (.d (.bool true)) ρ)) (hT : tabsOf K = []) : FnOk P w K mg base CX k f fd ps (spLaw K) :=
  (law_spT F hm).imp fun vs H Q E ⟨a, ns, hv, hs, hl, hq⟩ => ⟨a, ns, hv, hs, hl, (fun p hp => by rw [hT] at hp; cases hp), hq⟩
end Pv

/-! Plain helpers for what mirrors compute. -/
namespace Pv
open PySem PySem.Spec PyProof.Rows L2
theorem zipD_eq : ∀ a b : List Nat, zipD a b = (a.zip b).map fun p => .tuple [tx [p.1], tx [p.2]]
  | [], b => by cases b <;> rfl
  | x :: a, [] => rfl
  | x :: a, y :: b => by show _ :: zipD a b = _; rw [zipD_eq a b]; rfl
theorem cut_from {α : Type} {l : List α} {k : Nat} : cutP l (some (k : Int)) none = l.drop k := by
  unfold cutP
  rw [HT.sIx_nat, HT.sIx_none]
  by_cases h : k ≤ l.length
  · rw [Nat.min_eq_left h]
    exact List.take_of_length_le (by rw [List.length_drop]; omega)
  · rw [List.drop_eq_nil_of_le (by omega), List.drop_eq_nil_of_le (by omega)]; simp
theorem cut_to {α : Type} {l : List α} {k : Nat} : cutP l none (some (k : Int)) = l.take k := by
  unfold cutP
  rw [HT.sIx_nat, HT.sIx_none, List.drop_zero, Nat.sub_zero]
  by_cases h : k ≤ l.length
  · rw [Nat.min_eq_left h]
  · rw [Nat.min_eq_right (by omega), List.take_of_length_le (by omega), List.take_of_length_le (by omega)]
@[simp] theorem fSl_from {l : List PyData} {k : Nat} : fSl (some (k : Int)) none (.list l) = some (.li (l.drop k)) := by
  show some (Vr.li (cutP l _ _)) = _
  rw [cut_from]
@[simp] theorem fSl_to {l : List PyData} {k : Nat} : fSl none (some (k : Int)) (.list l) = some (.li (l.take k)) := by
  show some (Vr.li (cutP l _ _)) = _
  rw [cut_to]
@[simp] theorem fSl_fromS {l : List Nat} {k : Nat} : fSl (some (k : Int)) none (tx l) = if l.length ≤ 1000000 then some (.it (tx (l.drop k))) else none := by
  show (if l.length ≤ 1000000 then some (Vr.it (tx (cutP l _ _))) else none) = _
  rw [cut_from]
@[simp] theorem fSl_toS {l : List Nat} {k : Nat} : fSl none (some (k : Int)) (tx l) = if l.length ≤ 1000000 then some (.it (tx (l.take k))) else none := by
  show (if l.length ≤ 1000000 then some (Vr.it (tx (cutP l _ _))) else none) = _
  rw [cut_to]
@[simp] theorem fSl_from1S {l : List Nat} : fSl (some 1) none (tx l) = if l.length ≤ 1000000 then some (.it (tx (l.drop 1))) else none := fSl_fromS (k := 1)
@[simp] theorem lt_one {a b : Nat} : ([a] < [b]) ↔ a < b := by
  rw [List.cons_lt_cons_iff]
  simp
theorem enumD_eq {f : Nat → PyData} : ∀ (l : List Nat) (i : Nat), enumD i (l.map f) = (l.zipIdx i).map fun p => .tuple [.int p.2, f p.1]
  | [], i => rfl
  | x :: l, i => by
    show _ :: enumD (i + 1) (l.map f) = _
    rw [enumD_eq l (i + 1)]
    rfl
/-- a number or none -/
def optI : Option Int → PyData
  | none => .none
  | some n => .int n
@[simp] theorem optI_n : optI none = .none := rfl
@[simp] theorem optI_s {n : Int} : optI (some n) = .int n := rfl
@[simp] theorem isNone_opt {o : Option Int} : isNone (optI o) = o.isNone := by cases o <;> rfl
theorem findP_ints {y : Int} : ∀ (l : List Int) (i : Nat), y ∈ l → ∃ j, findP (.int y) i (l.map .int) = some (i + j) ∧ l[j]? = some y
  | [], i, h => by cases h
  | z :: l, i, h => by
    show ∃ j, (if eqP (.int z) (.int y) = true then some i else findP (.int y) (i + 1) (l.map .int)) = some (i + j) ∧ _
    by_cases e : z = y
    · refine ⟨0, ?_, by rw [e]; rfl⟩
      rw [if_pos (by show (z == y) = true; rw [e]; exact beq_self_eq_true y)]
      rfl
    · have hm : y ∈ l := by
        cases h with
        | head => exact absurd rfl e
        | tail _ h => exact h
      obtain ⟨j, e1, e2⟩ := findP_ints l (i + 1) hm
      refine ⟨j + 1, ?_, e2⟩
      rw [if_neg (by show ¬ (z == y) = true; rw [beq_iff_eq]; exact e), e1]
      congr 1; omega
end Pv

/-! Places and scores, in plain lists. -/
namespace Pv
open PySem PySem.Spec PyProof.Rows L2
abbrev AB : List Nat := [97, 98, 99, 100, 101, 102]
def plF : Nat → List Nat → Nat → List Nat
  | _, [], _ => []
  | i, x :: o, t => if x = t then (i + 1) :: plF (i + 1) o t else plF (i + 1) o t
def pl (o : List Nat) (t : Nat) : List Nat := plF 0 o t
theorem plF_zip : ∀ (o : List Nat) (i t : Nat), ((o.zipIdx i).filter fun p => decide (p.1 = t)).map (fun p => PyData.int ((p.2 : Int) + 1)) = (plF i o t).map fun p => .int (p : Nat)
  | [], i, t => rfl
  | x :: o, i, t => by
    rw [List.zipIdx_cons]
    unfold plF
    by_cases h : x = t
    · rw [List.filter_cons_of_pos (by simpa using h), List.map_cons, plF_zip o (i + 1) t, if_pos h, List.map_cons]
      rfl
    · rw [List.filter_cons_of_neg (by simpa using h), plF_zip o (i + 1) t, if_neg h]
theorem plF_app : ∀ (a b : List Nat) (i t : Nat), plF i (a ++ b) t = plF i a t ++ plF (i + a.length) b t
  | [], b, i, t => rfl
  | x :: a, b, i, t => by
    have e : i + 1 + a.length = i + (x :: a).length := by rw [List.length_cons]; omega
    show (if x = t then (i + 1) :: plF (i + 1) (a ++ b) t else plF (i + 1) (a ++ b) t) = (if x = t then (i + 1) :: plF (i + 1) a t else plF (i + 1) a t) ++ _
    rw [plF_app a b (i + 1) t, e]
    split <;> rfl
theorem plF_none : ∀ (o : List Nat) (i t : Nat), t ∉ o → plF i o t = []
  | [], _, _, _ => rfl
  | x :: o, i, t, h => by
    unfold plF
    rw [if_neg (fun e => h (by rw [e]; exact List.mem_cons_self ..)), plF_none o _ _ fun hm => h (List.mem_cons_of_mem _ hm)]
theorem plF_shift : ∀ (o : List Nat) (i n t : Nat), plF (i + n) o t = (plF i o t).map (· + n)
  | [], _, _, _ => rfl
  | x :: o, i, n, t => by
    have e : i + n + 1 = i + 1 + n := by omega
    unfold plF
    rw [e, plF_shift o (i + 1) n t]
    split
    · rw [List.map_cons]
    · rfl
theorem plF_range : ∀ (o : List Nat) (i t p : Nat), p ∈ plF i o t → i < p ∧ p ≤ i + o.length
  | [], _, _, _, h => by cases h
  | x :: o, i, t, p, h => by
    unfold plF at h
    rw [List.length_cons]
    have go : p ∈ plF (i + 1) o t → i < p ∧ p ≤ i + (o.length + 1) := fun h => by
      have := plF_range o (i + 1) t p h
      omega
    split at h
    · cases h with
      | head => omega
      | tail _ h => exact go h
    · exact go h
theorem plF_len : ∀ (o : List Nat) (i t : Nat), (plF i o t).length = o.count t
  | [], _, _ => rfl
  | x :: o, i, t => by
    unfold plF
    rw [List.count_cons]
    split
    · rename_i h
      rw [List.length_cons, plF_len o, if_pos (by simpa using h)]
    · rename_i h
      rw [plF_len o, if_neg (by simpa using h)]
      rfl
theorem pl_range {o : List Nat} {t p : Nat} (h : p ∈ pl o t) : 0 < p ∧ p ≤ o.length := by
  have := plF_range o 0 t p h
  omega
theorem pl_len_le (o : List Nat) (t : Nat) : (pl o t).length ≤ o.length := by
  unfold pl; rw [plF_len]; exact List.count_le_length
/-- the order with n letters x put in behind place g -/
def putO (o : List Nat) (g x n : Nat) : List Nat := o.take g ++ List.replicate n x ++ o.drop g
theorem putO_len {o : List Nat} {g x n : Nat} (h : g ≤ o.length) : (putO o g x n).length = o.length + n := by
  unfold putO
  rw [List.length_append, List.length_append, List.length_take, List.length_replicate, List.length_drop]
  omega
theorem pl_put {o : List Nat} {g x n t : Nat} (h : g ≤ o.length) (hx : x ≠ t) : pl (putO o g x n) t = (pl o t).map fun p => if g < p then p + n else p := by
  unfold pl putO
  have e : plF 0 o t = plF 0 (o.take g) t ++ plF g (o.drop g) t := by
    conv => lhs; rw [← List.take_append_drop g o]
    rw [plF_app, List.length_take, Nat.min_eq_left h, Nat.zero_add]
  rw [plF_app, plF_app, e, List.map_append, plF_none (List.replicate n x) _ t (fun hm => hx (List.eq_of_mem_replicate hm).symm), List.append_nil, List.length_append, List.length_take, List.length_replicate, Nat.min_eq_left h, Nat.zero_add, plF_shift]
  congr 1
  · refine (List.map_id' _).symm.trans (List.map_congr_left fun p hp => ?_)
    have := plF_range _ _ _ _ hp
    rw [List.length_take] at this
    rw [if_neg (by omega)]
  · exact List.map_congr_left fun p hp => by
      have := plF_range _ _ _ _ hp
      rw [if_pos (by omega)]
/-- the sum of the first c places, if there are as many -/
def scoreN (o : List Nat) (t c : Nat) : Option Nat := if c ≤ (pl o t).length then some ((pl o t).take c).sum else none
def score (o : List Nat) (t c : Nat) : Option Int := (scoreN o t c).map fun n => (n : Int)
def behind (o : List Nat) (t c g : Nat) : Nat := (((pl o t).take c).filter fun p => decide (g < p)).length
theorem sum_shift : ∀ (l : List Nat) (g n : Nat), (l.map fun p => if g < p then p + n else p).sum = l.sum + n * (l.filter fun p => decide (g < p)).length
  | [], _, _ => rfl
  | p :: l, g, n => by
    rw [List.map_cons, List.sum_cons, sum_shift l g n, List.sum_cons]
    by_cases h : g < p
    · rw [if_pos h, List.filter_cons_of_pos (by simpa using h), List.length_cons, Nat.mul_succ]; omega
    · rw [if_neg h, List.filter_cons_of_neg (by simpa using h)]; omega
theorem scoreN_put {o : List Nat} {g x n t c : Nat} (h : g ≤ o.length) (hx : x ≠ t) : scoreN (putO o g x n) t c = (scoreN o t c).map fun s => s + n * behind o t c g := by
  unfold scoreN behind
  rw [pl_put h hx, List.length_map, ← List.map_take, sum_shift]
  split <;> rfl
theorem score_put {o : List Nat} {g x n t c : Nat} (h : g ≤ o.length) (hx : x ≠ t) : score (putO o g x n) t c = (score o t c).map fun (s : Int) => s + (n : Int) * (behind o t c g : Int) := by
  unfold score
  rw [scoreN_put h hx]
  cases scoreN o t c with
  | none => rfl
  | some s => show some _ = some _; congr 1
theorem filter_put {o s : List Nat} {g x n : Nat} (hx : x ∉ s) : (putO o g x n).filter (fun c => decide (c ∈ s)) = o.filter fun c => decide (c ∈ s) := by
  unfold putO
  rw [List.filter_append, List.filter_append, List.filter_eq_nil_iff (l := List.replicate n x).mpr (fun y hy => by have := List.eq_of_mem_replicate hy; subst this; simpa using hx), List.append_nil, ← List.filter_append, List.take_append_drop]
def gain (o : List Nat) (a b c g : Nat) : Int := (behind o a c g : Int) - (behind o b c g : Int)
theorem gain_end (o : List Nat) (a b c : Nat) : gain o a b c o.length = 0 := by
  have z : ∀ t, behind o t c o.length = 0 := fun t => by
    unfold behind
    rw [List.filter_eq_nil_iff.mpr fun p hp => by
      have := pl_range (List.mem_of_mem_take hp)
      simpa using this.2]
    rfl
  unfold gain
  rw [z, z]; rfl
def gains (o : List Nat) (a b c : Nat) : List Int := (List.range (o.length + 1)).map fun g => gain o a b c g
theorem gains_cons (o : List Nat) (a b c : Nat) : ∃ r, gains o a b c = gain o a b c 0 :: r := ⟨_, by unfold gains; rw [List.range_succ_eq_map]; rfl⟩
def best (o : List Nat) (a b c : Nat) : Int := maxL (gain o a b c 0) ((gains o a b c).drop 1)
theorem best_max (o : List Nat) (a b c : Nat) : fMax (.list ((gains o a b c).map .int)) = some (.it (.int (best o a b c))) := by
  unfold best
  obtain ⟨r, e⟩ := gains_cons o a b c
  rw [e]
  show (match intsOf ((gain o a b c 0 :: r).map PyData.int) with
    | some (n :: ns) => some (Vr.it (.int (maxL n ns)))
    | _ => none) = _
  rw [intsOf_map]
  rfl
theorem best_ge {o : List Nat} {a b c g : Nat} (h : g ≤ o.length) : gain o a b c g ≤ best o a b c := by
  have hm : gain o a b c g ∈ gains o a b c := List.mem_map.mpr ⟨g, List.mem_range.mpr (by omega), rfl⟩
  unfold best
  obtain ⟨r, e⟩ := gains_cons o a b c
  rw [e] at hm ⊢
  have := maxL_ge r (gain o a b c 0)
  rcases List.mem_cons.mp hm with e | hm
  · rw [e]; exact this.1
  · exact this.2 _ hm
theorem best_mem (o : List Nat) (a b c : Nat) : best o a b c ∈ gains o a b c := by
  unfold best
  obtain ⟨r, e⟩ := gains_cons o a b c
  rw [e]
  rcases maxL_mem r (gain o a b c 0) with h | h
  · rw [List.drop_one, List.tail_cons, h]; exact List.mem_cons_self ..
  · exact List.mem_cons_of_mem _ h
theorem best_nonneg (o : List Nat) (a b c : Nat) : 0 ≤ best o a b c := by
  have := best_ge (a := a) (b := b) (c := c) (Nat.le_refl o.length)
  rw [gain_end] at this
  exact this
theorem best_at (o : List Nat) (a b c : Nat) : ∃ g, g ≤ o.length ∧ findP (.int (best o a b c)) 0 ((gains o a b c).map .int) = some g ∧ gain o a b c g = best o a b c := by
  obtain ⟨j, e1, e2⟩ := findP_ints (gains o a b c) 0 (best_mem o a b c)
  rw [Nat.zero_add] at e1
  obtain ⟨hl, e3⟩ := List.getElem?_eq_some_iff.mp e2
  unfold gains at hl e3
  rw [List.length_map, List.length_range] at hl
  rw [List.getElem_map, List.getElem_range] at e3
  exact ⟨j, by omega, e1, e3⟩
end Pv

/-! The script: its length, its cells. -/
namespace Pv
open PySem PySem.Spec PyProof.Rows L2
def mLenScr (i : Nat) : ME := fun ρ => match ρ[i]? with
  | some (.scr ns) => some (.ok (.d (.int ns.length)) ρ)
  | _ => none
def mIxScr (i : Nat) (mb : ME) : ME := fun ρ => match ρ[i]? with
  | some (.scr _) => bd (mb ρ) fun v ρ1 => match v, ρ1[i]? with
    | .d (.int j), some (.scr ns) => (atI ns j).map fun n => .ok (.d (.int n)) ρ1
    | _, _ => none
  | _ => none
section
variable {X : Cx} {w : WC} {K : PySem.W.Frag} {σ : L2.St} {H : Hp} {b : Expr} {pos : Pos}
theorem sqL_same {K : PySem.W.Frag} {H H' : Hp} {a : Addr} {xs : List V} (h : SqL K H a xs) (e : Same H H') : SqL K H' a xs :=
  h.elim (fun h => .inl (h.elim (fun h => .inl (e _ _ h)) fun ⟨o, h⟩ => .inr ⟨o, e _ _ h⟩)) fun h => .inr h
theorem atI_map {α β : Type} {f : α → β} {l : List α} {i : Int} {x : α} (h : atI l i = some x) : atI (l.map f) i = some (f x) := by
  unfold atI at h ⊢
  rw [List.length_map]
  cases e : ixN l.length i with
  | none => rw [e] at h; cases h
  | some j => rw [e] at h; show (l.map f)[j]? = _; rw [List.getElem?_map]; rw [show l[j]? = some x from h]; rfl
theorem lenScr_of {i : Nat} {Q : VK} (h : tE K w (mLenScr i) σ H Q) : tCB (fun (xs : List V) (H : Hp) (Q : VK) => ∃ x n, xs = [x] ∧ LenV K x H n ∧ Q (.int n) H) (tCons (tVar i) tNil) σ H Q := by
  obtain ⟨fr, F, ρ, S, h⟩ := h
  have h' : WPg K w EvRep Q fr F σ (match ρ[i]? with
  | some (.scr ns) => some (.ok (.d (.int ns.length)) ρ)
  | _ => none) := h
  cases e : ρ[i]? with
  | none => rw [e] at h'; exact h'.elim
  | some s =>
    rw [e] at h'
    have q := S.at e
    match s, q, h' with
    | .no, q, h' => exact h'.elim
    | .d x, q, h' => exact h'.elim
    | .o c, q, h' => exact h'.elim
    | .r c, q, h' => exact h'.elim
    | .scr ns, q, h' =>
      obtain ⟨a, q1, q2⟩ := q
      have sq := sqL_same (S.sA a ns q2) S.sZ
      exact ⟨_, q1, _, _, rfl, .inl ⟨_, sq, rfl⟩, by rw [List.length_map]; exact h' F H _ S (Same.refl _) (.int _)⟩
theorem ixScr_of {i : Nat} {mb : ME} {Q : VK} (h : tE K w (mIxScr i mb) σ H Q) : tOp (rIxL K) (tVar i) (tE K w mb) σ H Q := by
  obtain ⟨fr, F, ρ, S, h⟩ := h
  have h' : WPg K w EvRep Q fr F σ (match ρ[i]? with
  | some (.scr _) => bd (mb ρ) fun v ρ1 => match v, ρ1[i]? with
    | .d (.int j), some (.scr ns) => (atI ns j).map fun n => .ok (.d (.int n)) ρ1
    | _, _ => none
  | _ => none) := h
  cases e : ρ[i]? with
  | none => rw [e] at h'; exact h'.elim
  | some s =>
    rw [e] at h'
    have q := S.at e
    match s, q, h' with
    | .no, q, h' => exact h'.elim
    | .d x, q, h' => exact h'.elim
    | .o c, q, h' => exact h'.elim
    | .r c, q, h' => exact h'.elim
    | .scr ns, q, h' =>
      obtain ⟨a, q1, q2⟩ := q
      refine ⟨_, q1, fr, F, ρ, S, h'.bd fun v ρ1 F1 H1 u S1 s1 r1 h1 => ?_⟩
      match v, r1, h1 with
      | .b _, r1, h1 => exact h1.elim
      | .o _, r1, h1 => exact h1.elim
      | .d (.int j), r1, h1 =>
        cases e1 : ρ1[i]? with
        | none => rw [e1] at h1; exact h1.elim
        | some s1 =>
          rw [e1] at h1
          have p := S1.at e1
          match s1, p, h1 with
          | .no, q, h' => exact h'.elim
          | .d x, q, h' => exact h'.elim
          | .o c, q, h' => exact h'.elim
          | .r c, q, h' => exact h'.elim
          | .scr ns1, p, h1 =>
            obtain ⟨a1, p1, p2⟩ := p
            rw [q1] at p1
            cases p1
            have sq := sqL_same (S1.sA a ns1 p2) S1.sZ
            have h2 : WPg K w EvRep Q fr F1 σ ((atI ns1 j).map fun n => .ok (.d (.int n)) ρ1) := h1
            cases ea : atI ns1 j with
            | none => rw [ea] at h2; exact h2.elim
            | some n =>
              rw [ea] at h2
              cases r1
              exact ⟨a, ns1.map V.int, j, .int n, rfl, rfl, sq, atI_map ea, h2 F1 H1 _ S1 (Same.refl _) (.int _)⟩
      | .d .none, r1, h1 => exact h1.elim
      | .d (.bool _), r1, h1 => exact h1.elim
      | .d (.str _), r1, h1 => exact h1.elim
      | .d (.list _), r1, h1 => exact h1.elim
      | .d (.tuple _), r1, h1 => exact h1.elim
      | .d (.dict _), r1, h1 => exact h1.elim
theorem e_lenScr {i : Nat} {x y : Str} {p q : Pos} (hN : X.N[i]? = some y) (hv : Vis X.env.scope y) (hg : Gl X x) (hm : X.mg x = none) (hb : bootBuiltins x = some (.builtin "len")) (hd : (y == ("__debug__" : Str)) = false := by decide) (hcd : (y == ("__classdict__" : Str)) = false := by decide)
    (hn : x ≠ "__name__" := by decide) (hdb : (x == ("__debug__" : Str)) = false := by decide) (hs : starEach (.Name y q :: []) X.env = (false, eval (.Name y q) X.env) :: starEach [] X.env := by rfl) (hpl : (backTo pos (starEach [] X.env)).any (·.1) = false := by rfl) :
    PE X (.Call (.Name x p) [.Name y q] [] pos) (tE X.K w (mLenScr i)) :=
  wkE (pe_callB call_len hg hm hb (pa_cons (pe_var hN hv hd hcd) pa_nil hs) hn hdb hs hpl) fun _ _ _ h => lenScr_of h
theorem e_ixScr {i : Nat} {y : Str} {q : Pos} {mb : ME} (hN : X.N[i]? = some y) (hv : Vis X.env.scope y) (hb : PE X b (tE X.K w mb)) (hs : PlainIx b) (hd : (y == ("__debug__" : Str)) = false := by decide) (hcd : (y == ("__classdict__" : Str)) = false := by decide) :
    PE X (.Subscript (.Name y q) b pos) (tE X.K w (mIxScr i mb)) :=
  wkE (pe_ix ix_list (pe_var hN hv hd hcd) hb hs) fun _ _ _ h => ixScr_of h
end
@[simp] theorem mLenScr_ap {ρ : Rho} {i : Nat} : mLenScr i ρ = match ρ[i]? with
  | some (.scr ns) => some (.ok (.d (.int ns.length)) ρ)
  | _ => none := rfl
@[simp] theorem mIxScr_ap {ρ : Rho} {i : Nat} {mb : ME} : mIxScr i mb ρ = match ρ[i]? with
  | some (.scr _) => bd (mb ρ) fun v ρ1 => match v, ρ1[i]? with
    | .d (.int j), some (.scr ns) => (atI ns j).map fun n => .ok (.d (.int n)) ρ1
    | _, _ => none
  | _ => none := rfl
/-- a loop that runs to its end, its invariant told by what has gone by -/
theorem loopF_go {α : Type} {g : MG} {b : MS} (q : α → PyData) (I : List α → Rho → Prop) (all : List α) {ρ : Rho} (h : I [] ρ)
    (st : ∀ pre x post ρ, all = pre ++ x :: post → I pre ρ → ∃ ρ1 ρ2, g (q x) ρ = some ρ1 ∧ b ρ1 = some (.nx ρ2) ∧ I (pre ++ [x]) ρ2) : ∃ ρ', loopF g b (all.map q) ρ = some (.nx ρ') ∧ I all ρ' := by
  have main : ∀ (xs pre : List α) (ρ : Rho), all = pre ++ xs → I pre ρ → ∃ ρ', loopF g b (xs.map q) ρ = some (.nx ρ') ∧ I all ρ' := by
    intro xs
    induction xs with
    | nil => intro pre ρ e h; exact ⟨ρ, rfl, by rw [e, List.append_nil]; exact h⟩
    | cons x xs ih =>
      intro pre ρ e h
      obtain ⟨ρ1, ρ2, e1, e2, h2⟩ := st pre x xs ρ e h
      obtain ⟨ρ', e3, h3⟩ := ih (pre ++ [x]) ρ2 (by rw [e, List.append_assoc]; rfl) h2
      exact ⟨ρ', by rw [List.map_cons, loopF_cons e1 e2, e3], h3⟩
  exact main all [] ρ rfl h
end Pv

/-! States of a law's own body; dicts by key. -/
namespace Pv
open PySem PySem.Spec PyProof.Rows L2
structure Gd (n : Nat) (ρ : Rho) : Prop where
  len : ρ.length = n
  nr : ∀ i, i < n → Option.map nrS ρ[i]? = some true
theorem Gd.set {n : Nat} {ρ : Rho} (h : Gd n ρ) {j : Nat} {s : Sl} (hs : nrS s = true) : Gd n (ρ.set j s) := by
  refine ⟨by rw [List.length_set]; exact h.len, fun i hi => ?_⟩
  rw [List.getElem?_set]
  split
  · rename_i e
    subst e
    rw [if_pos (by rw [h.len]; exact hi)]
    show some (nrS s) = _
    rw [hs]
  · exact h.nr i hi
theorem Gd.setd {n : Nat} {ρ : Rho} (h : Gd n ρ) (j : Nat) (x : PyData) : Gd n (ρ.set j (.d x)) := h.set rfl
theorem Gd.seto {n : Nat} {ρ : Rho} (h : Gd n ρ) (j : Nat) (x : Oc) : Gd n (ρ.set j (.o x)) := h.set rfl
theorem Gd.setn {n : Nat} {ρ : Rho} (h : Gd n ρ) (j : Nat) : Gd n (ρ.set j .no) := h.set rfl
theorem set_get {n : Nat} {ρ : Rho} (h : Gd n ρ) {i : Nat} {s : Sl} (hi : i < n) : (ρ.set i s)[i]? = some s := by
  rw [List.getElem?_set_self (by rw [h.len]; exact hi)]
theorem Gd.ofList {ρ : Rho} (h : ρ.all nrS = true) : Gd ρ.length ρ := ⟨rfl, fun i hi => by
  rw [List.getElem?_eq_getElem hi]
  exact congrArg some (List.all_eq_true.mp h _ (List.getElem_mem hi))⟩
theorem Gd.asg {n : Nat} {ρ : Rho} (h : Gd n ρ) {i : Nat} (hi : i < n) (x : PyData) : asg i (.d x) ρ = some (ρ.set i (.d x)) := by
  rw [asg_dS, h.nr i hi, if_pos rfl]
theorem Gd.asgo {n : Nat} {ρ : Rho} (h : Gd n ρ) {i : Nat} (hi : i < n) (x : Oc) : Pv.asg i (.o x) ρ = some (ρ.set i (.o x)) := by
  rw [asg_oS, h.nr i hi, if_pos rfl]
theorem Gd.setM {n : Nat} {ρ ρ1 : Rho} {me : ME} {x : PyData} {i : Nat} (e : me ρ = some (.ok (.d x) ρ1)) (h : Gd n ρ1) (hi : i < n) : mSet i me ρ = some (.nx (ρ1.set i (.d x))) := by
  rw [mSet_ap, e, bS_ok, h.asg hi]; rfl
theorem Gd.setMo {n : Nat} {ρ ρ1 : Rho} {me : ME} {x : Oc} {i : Nat} (e : me ρ = some (.ok (.o x) ρ1)) (h : Gd n ρ1) (hi : i < n) : mSet i me ρ = some (.nx (ρ1.set i (.o x))) := by
  rw [mSet_ap, e, bS_ok, h.asgo hi]; rfl
/-- a, b = e, f -/
theorem Gd.asg2 {n : Nat} {ρ ρ1 ρ2 : Rho} {ma mb : ME} {x y : PyData} {i j : Nat} (ha : mFrz ma ρ = some (.ok x ρ1)) (hb : mFrz mb ρ1 = some (.ok y ρ2)) (h : Gd n ρ2) (hi : i < n) (hj : j < n) :
    mAsgT (gTp 2 (gsCons (gNm i) (gsCons (gNm j) gsNil))) (mTup (mCons ma (mCons mb mNil))) ρ = some (.nx ((ρ2.set i (.d x)).set j (.d y))) := by
  rw [mAsgT_ap, mFrz_ap, mTup_ap, mCons_ap, ha, bd_ok, mCons_ap, hb, bd_ok, mNil_ap, bd_ok, bd_ok]
  show bS (bd (if [x, y].length ≤ sizeLine then some (Rg.ok (Ev.d (.tuple [x, y])) ρ2) else none) _) _ = _
  rw [if_pos (show [x, y].length ≤ sizeLine from sl2)]
  show Option.map Fl.nx ((Pv.asg i (.d x) ρ2).bind (gsCons (gNm j) gsNil [y])) = _
  rw [h.asg hi]
  show Option.map Fl.nx ((Pv.asg j (.d y) (ρ2.set i (.d x))).bind (gsNil [])) = _
  rw [(h.setd i x).asg hj]
  rfl
theorem Gd.asg3 {n : Nat} {ρ ρ1 ρ2 ρ3 : Rho} {ma mb mc : ME} {x y z : PyData} {i j k : Nat} (ha : mFrz ma ρ = some (.ok x ρ1)) (hb : mFrz mb ρ1 = some (.ok y ρ2)) (hc : mFrz mc ρ2 = some (.ok z ρ3)) (h : Gd n ρ3) (hi : i < n) (hj : j < n) (hk : k < n) :
    mAsgT (gTp 3 (gsCons (gNm i) (gsCons (gNm j) (gsCons (gNm k) gsNil)))) (mTup (mCons ma (mCons mb (mCons mc mNil)))) ρ = some (.nx (((ρ3.set i (.d x)).set j (.d y)).set k (.d z))) := by
  rw [mAsgT_ap, mFrz_ap, mTup_ap, mCons_ap, ha, bd_ok, mCons_ap, hb, bd_ok, mCons_ap, hc, bd_ok, mNil_ap, bd_ok, bd_ok, bd_ok]
  show bS (bd (if [x, y, z].length ≤ sizeLine then some (Rg.ok (Ev.d (.tuple [x, y, z])) ρ3) else none) _) _ = _
  rw [if_pos (show [x, y, z].length ≤ sizeLine from sl3)]
  show Option.map Fl.nx ((Pv.asg i (.d x) ρ3).bind (gsCons (gNm j) (gsCons (gNm k) gsNil) [y, z])) = _
  rw [h.asg hi]
  show Option.map Fl.nx ((Pv.asg j (.d y) (ρ3.set i (.d x))).bind (gsCons (gNm k) gsNil [z])) = _
  rw [(h.setd i x).asg hj]
  show Option.map Fl.nx ((Pv.asg k (.d z) ((ρ3.set i (.d x)).set j (.d y))).bind (gsNil [])) = _
  rw [((h.setd i x).setd j y).asg hk]
  rfl
theorem frz_of {ρ ρ1 : Rho} {me : ME} {x : PyData} (e : me ρ = some (.ok (.d x) ρ1)) : mFrz me ρ = some (.ok x ρ1) := by
  rw [mFrz_ap, e, bd_ok, frz_d]; rfl
theorem frz_ofo {ρ ρ1 : Rho} {me : ME} {x : List PyData} (e : me ρ = some (.ok (.o (.l x)) ρ1)) : mFrz me ρ = some (.ok (.list x) ρ1) := by
  rw [mFrz_ap, e, bd_ok, frz_ol]; rfl
/-! what the law draws -/
def Src (a b : Int) : Prop := 0 ≤ a ∧ 0 ≤ b ∧ b ≤ 2147483647
abbrev srcO (a b : Int) : Oc := .l [.int a, .int b]
def SrcAt (ρ : Rho) (i : Nat) : Prop := ∃ a b, Src a b ∧ ρ[i]? = some (.o (srcO a b))
theorem SrcAt.set {ρ : Rho} {i j : Nat} {s : Sl} (h : SrcAt ρ i) (hj : j ≠ i) : SrcAt (ρ.set j s) i := by
  obtain ⟨a, b, h1, h2⟩ := h
  exact ⟨a, b, h1, by rw [List.getElem?_set_ne hj]; exact h2⟩
theorem atI_nat {α : Type} {l : List α} {k : Nat} {i : Int} (h : i = k) : atI l i = l[k]? := by
  subst h
  unfold atI ixN
  rw [if_pos (by omega)]
  by_cases c : k < l.length
  · rw [if_pos (by omega)]; rfl
  · rw [if_neg (by omega), List.getElem?_eq_none (by omega)]; rfl
theorem getP_nil {κ : Type} [DecidableEq κ] (k : κ) : getP ([] : List (κ × PyData)) k = none := rfl
theorem getP_put {κ : Type} [DecidableEq κ] (kvs : List (κ × PyData)) (k k' : κ) (v : PyData) : getP (putP kvs k v) k' = if k = k' then some v else getP kvs k' := by
  unfold putP
  by_cases h : (kvs.any fun kv => decide (kv.1 = k)) = true
  · rw [if_pos h]
    induction kvs with
    | nil => cases h
    | cons kv kvs ih =>
      unfold getP
      rw [List.map_cons, List.find?_cons, List.find?_cons]
      by_cases e : kv.1 = k
      · rw [if_pos e]
        by_cases e2 : k = k'
        · subst e2
          rw [if_pos rfl]
          simp [e]
        · rw [if_neg e2]
          have e3 : ¬ kv.1 = k' := by rw [e]; exact e2
          simp only [e3, decide_false]
          by_cases a : (kvs.any fun kv => decide (kv.1 = k)) = true
          · have := ih a
            rw [if_neg e2] at this
            exact this
          · have hk : ∀ p ∈ kvs, ¬ p.1 = k := fun p hp e4 => a (List.any_eq_true.mpr ⟨p, hp, by simpa using e4⟩)
            have : kvs.map (fun kv => if kv.1 = k then (kv.1, v) else kv) = kvs := by
              refine (List.map_congr_left fun p hp => ?_).trans (List.map_id' _)
              rw [if_neg (hk p hp)]
            rw [this]
      · rw [if_neg e]
        have a : (kvs.any fun kv => decide (kv.1 = k)) = true := by
          rw [List.any_cons, decide_eq_false e, Bool.false_or] at h
          exact h
        have := ih a
        by_cases e2 : kv.1 = k'
        · have e3 : ¬ k = k' := fun z => e (e2.trans z.symm)
          rw [if_neg e3]
          simp [e2]
        · simp only [e2, decide_false]
          exact this
  · rw [if_neg h]
    unfold getP
    rw [List.find?_append]
    have hk : ∀ p ∈ kvs, ¬ p.1 = k := fun p hp e4 => h (List.any_eq_true.mpr ⟨p, hp, by simpa using e4⟩)
    by_cases e2 : k = k'
    · subst e2
      rw [if_pos rfl, List.find?_eq_none.mpr fun p hp => by simpa using hk p hp]
      simp
    · rw [if_neg e2]
      have : List.find? (fun kv => decide (kv.1 = k')) [(k, v)] = none := by simp [e2]
      rw [this, Option.or_none]
theorem putP_len {κ : Type} [DecidableEq κ] (kvs : List (κ × PyData)) (k : κ) (v : PyData) : (putP kvs k v).length ≤ kvs.length + 1 := by
  unfold putP
  split
  · rw [List.length_map]; omega
  · rw [List.length_append]; exact Nat.le_refl _
theorem fNe_opt (a b : Option Int) : fNe (optI a) (optI b) = some (.it (.bool (!decide (a = b)))) := by
  cases a with
  | none => cases b with
    | none => rfl
    | some y => rfl
  | some x => cases b with
    | none => rfl
    | some y => show some (Vr.it (.bool (!decide (x = y)))) = _; rw [show decide (x = y) = decide (some x = some y) by simp]
theorem fEq_opt (a b : Option Int) : fEq (optI a) (optI b) = some (.it (.bool (decide (a = b)))) := by
  cases a with
  | none => cases b with
    | none => rfl
    | some y => rfl
  | some x => cases b with
    | none => rfl
    | some y => show some (Vr.it (.bool (decide (x = y)))) = _; rw [show decide (x = y) = decide (some x = some y) by simp]
@[simp] theorem keyP_s {s : Str} : keyP (.str s) = some (.inr s) := rfl
@[simp] theorem keyP_i {i : Int} : keyP (.int i) = some (.inl i) := rfl
@[simp] theorem dGet_k {kvs : List (Key × PyData)} {x : PyData} : dGet (.k kvs) x = (keyP x).map fun k => getP kvs k := rfl
@[simp] theorem dGet_t {kvs : List (List Key × PyData)} {x : PyData} : dGet (.t kvs) x = (keysP x).map fun k => getP kvs k := rfl
@[simp] theorem dPut_k {kvs : List (Key × PyData)} {x y : PyData} : dPut (.k kvs) x y = if kvs.length < 1000000 then (keyP x).map fun k => .k (putP kvs k y) else none := Eq.trans rfl rfl
@[simp] theorem dPut_t {kvs : List (List Key × PyData)} {x y : PyData} : dPut (.t kvs) x y = if kvs.length < 1000000 then (keysP x).map fun k => .t (putP kvs k y) else none := Eq.trans rfl rfl
@[simp] theorem isDk_k {kvs : List (Key × PyData)} : isDk (.k kvs) = true := rfl
@[simp] theorem isDk_t {kvs : List (List Key × PyData)} : isDk (.t kvs) = true := rfl
end Pv

/-! Sets of ints and texts (keys), made of a list or a text, and sorted. -/
namespace Pv
open PySem PySem.Spec PyProof.Rows L2
def keyV : Value → Key
  | .int k _ => .inl k
  | .str x _ => .inr x
  | _ => .inl 0
section
variable {P : Program} {w : World} {A : Around} {E : Value → Shared → Prop} {s : Shared} {a : Addr}
/-- e is the entry of a key -/
def EntM (P : Program) (w : World) (e : Int × Value) : Prop := (mixKind P w).is (keyV e.2) e.2 = true ∧ e.1 = (mixKind P w).hash (keyV e.2) ∧ e.2.scannable = true
theorem is_key {k : Key} {v : Value} (h : (mixKind P w).is k v = true) : keyV v = k ∧ v.scannable = true := by
  rcases keyIs_shape h with ⟨i, t, rfl, rfl⟩ | ⟨x, t, rfl, rfl⟩
  · exact ⟨rfl, rfl⟩
  · exact ⟨rfl, rfl⟩
abbrev keyE (e : Int × Value) : Key := keyV e.2
/-- the set at a has the keys ks -/
def TabM (P : Program) (w : World) (h : Heap) (a : Addr) (ks : List Key) : Prop :=
  ∃ o es ep t, h.get? a = some o ∧ o.ExactSet ∧ o.data = .set es ep t ∧ (∀ e ∈ es.toList, EntM P w e) ∧ (es.toList.map keyE).Perm ks ∧ ks.Nodup ∧
    es.size < scanBound ∧ t.fits es.size = true ∧ Ris t.place.toList ∧ (w.params.followText "set-order" = true ∨ t.led = true)
theorem TabM.at {h h' : Heap} {ks : List Key} (T : TabM P w h a ks) (k : ∀ o, h.get? a = some o → h'.get? a = some o) : TabM P w h' a ks :=
  let ⟨o, es, ep, t, ho, r⟩ := T; ⟨o, es, ep, t, k o ho, r⟩
theorem EntM.elems {l : List (Int × Value)} (g : ∀ e ∈ l, EntM P w e) : ElemsOf (mixKind P w) l := fun e he => ⟨⟨_, (g e he).1, (g e he).2.1⟩, (g e he).2.2⟩
theorem EntM.is_iff {e : Int × Value} (g : EntM P w e) (k : Key) : (mixKind P w).is k e.2 = true ↔ keyE e = k :=
  ⟨fun h => (is_key h).1, fun h => by rw [← h]; exact g.1⟩
/-- what is left when the new entry stands in the table -/
theorem tab_store {g : Bool → Sem Unit} (hg : ∀ (b : Bool) (s₁ : Shared) (Q' : Unit → Shared → Prop), Q' () s₁ → wpAny (model P w) A (g b) Q' E s₁)
    {o : Obj} {es es1 : Array (Int × Value)} {ep : Nat} {t t2 : SetTable} {ks : List Key} {wd : Bool} {R : Option Bool → Shared → Prop} (ho : s.heap.get? a = some o) (hex : o.ExactSet) (hd : o.data = .set es ep t)
    (g1 : ∀ e ∈ es1.toList, EntM P w e) (pk : (es1.toList.map keyE).Perm ks) (nd : ks.Nodup) (hb : es1.size < scanBound) (hf : t2.fits es1.size = true) (hr : Ris t2.place.toList) (hl : w.params.followText "set-order" = true ∨ t2.led = true)
    (hR : ∀ h', Heap.SameBut a s.heap h' → TabM P w h' a ks → R (some true) { s with heap := h' }) :
    wpAny (model P w) A (do
        storeSet a es1 t2
        if (!wd && t2.tooFull) = true then do
            g (relayAll t2 es1 (SetTable.grown es1.size)).2.2
            storeSet a (relayAll t2 es1 (SetTable.grown es1.size)).1 (relayAll t2 es1 (SetTable.grown es1.size)).2.1
            pure (some true)
          else pure (some true)) R E s := by
  have st1 := store_at (es' := es1) (t' := t2) ho hd
  have same1 := Heap.SameBut.update s.heap a (Obj.putSet es1 t2)
  refine wpAny_bind (wpAny_storeSet_of ho hd ?_ (fits_of_scanBound hb))
  by_cases full : (!wd && t2.tooFull) = true
  · rw [if_pos full]
    have p3 := relayAll_perm t2 es1 (SetTable.grown es1.size)
    have f3 := relayAll_fits t2 es1 (SetTable.grown es1.size)
    have r3 := relayAll_ris t2 es1 (SetTable.grown es1.size)
    have l3 := relayAll_led t2 es1 (SetTable.grown es1.size)
    generalize relayAll t2 es1 (SetTable.grown es1.size) = z at p3 f3 r3 l3 ⊢
    rcases z with ⟨es3, t3, b3⟩
    dsimp only at p3 f3 r3 l3 ⊢
    have z3 : es3.size < scanBound := by
      have := p3.length_eq
      rw [Array.length_toList, Array.length_toList] at this
      omega
    refine wpAny_bind (hg b3 _ _ ?_)
    refine wpAny_bind (wpAny_storeSet_of st1 rfl (wpAny_pure (hR _ (same1.trans (Heap.SameBut.update _ a _)) ?_)) (fits_of_scanBound z3))
    exact ⟨_, es3, _, t3, store_at (es' := es3) (t' := t3) st1 rfl, hex, rfl, fun e he => g1 e (p3.mem_iff.mp he), (p3.map keyE).trans pk, nd, z3, f3, r3, hl.imp id fun q => l3.trans q⟩
  · rw [if_neg full]
    exact wpAny_pure (hR _ same1 ⟨_, es1, _, t2, st1, hex, rfl, g1, pk, nd, hb, hf, hr, hl⟩)
def addK (k : Key) (ks : List Key) : List Key := if (ks.any fun x => decide (x = k)) = true then ks else k :: ks
theorem any_mem {k : Key} {ks : List Key} : (ks.any fun x => decide (x = k)) = true ↔ k ∈ ks := by
  rw [List.any_eq_true]
  exact ⟨fun ⟨x, h, e⟩ => (of_decide_eq_true e) ▸ h, fun h => ⟨k, h, decide_eq_true rfl⟩⟩
theorem mem_addK {k j : Key} {ks : List Key} : j ∈ addK k ks ↔ j = k ∨ j ∈ ks := by
  unfold addK
  split
  · rename_i h
    exact ⟨.inr, fun h2 => h2.elim (fun e => e ▸ any_mem.mp h) id⟩
  · exact List.mem_cons
theorem addK_len (k : Key) (ks : List Key) : (addK k ks).length ≤ ks.length + 1 := by
  unfold addK
  split
  · omega
  · exact Nat.le_refl _
theorem tab_add {k : Key} {v : Value} {ks : List Key} {Q : Bool → Shared → Prop} (T : TabM P w s.heap a ks) (hv : (mixKind P w).is k v = true) (room : ks.length + 1 < scanBound)
    (hQ : ∀ h' b, Heap.SameBut a s.heap h' → TabM P w h' a (addK k ks) → Q b { s with heap := h' }) :
    wpAny (model P w) A (setAddHashed a v ((mixKind P w).hash k)) Q E s := by
  obtain ⟨o, es, ep, t, ho, hex, hd, g, pk, nd, hb, hf, hr, hl⟩ := T
  have sc := (is_key hv).2
  have el : ElemsOf (mixKind P w) es.toList := EntM.elems g
  unfold setAddHashed setAddHashedIn
  refine wpAny_holding (wpAny_bind (wpAny_setState_of ho hd hf ?_))
  dsimp only
  rw [byScan_of sc hb el]
  simp only [↓reduceIte]
  unfold setAddByScan
  refine wpAny_bind (wpAny_bind (wpAny_rule (wpAny_bind (wpAny_setScan_of hv ho hd hf el ?_))))
  have mem : k ∈ ks ↔ ∃ e ∈ es.toList, (mixKind P w).is k e.2 = true := by
    rw [← pk.mem_iff, List.mem_map]
    exact ⟨fun ⟨e, he, q⟩ => ⟨e, he, ((g e he).is_iff k).mpr q⟩, fun ⟨e, he, q⟩ => ⟨e, he, ((g e he).is_iff k).mp q⟩⟩
  cases hfi : List.findIdx? (fun e => (mixKind P w).is k e.2) es.toList with
  | some j =>
    obtain ⟨hj, pj, _⟩ := List.findIdx?_eq_some_iff_getElem.mp hfi
    have q := hQ s.heap false (Heap.SameBut.refl a s.heap)
    unfold addK at q
    rw [if_pos (any_mem.mpr (mem.mpr ⟨_, List.getElem_mem hj, pj⟩))] at q
    exact wpAny_pure (wpAny_pure (q ⟨o, es, ep, t, ho, hex, hd, g, pk, nd, hb, hf, hr, hl⟩))
  | none =>
    dsimp only
    have hk : k ∉ ks := fun z => by
      obtain ⟨e, he, q⟩ := mem.mp z
      have := List.findIdx?_eq_none_iff.mp hfi e he
      rw [q] at this
      cases this
    have tell : ∀ (b : Bool) (s₁ : Shared) (Q' : Unit → Shared → Prop), Q' () s₁ → wpAny (model P w) A (match b with | true => rule "set.scan.the-table-gave-way" | false => pure ()) Q' E s₁ := fun b _ _ q => by
      cases b
      · exact wpAny_pure q
      · exact wpAny_rule q
    have p1 := layNew_perm t es ((mixKind P w).hash k) v
    have f1 := layNew_fits t es ((mixKind P w).hash k) v
    have r1 := layNew_ris t es ((mixKind P w).hash k) v hr
    have l1 := layNew_led t es ((mixKind P w).hash k) v
    generalize layNew t es ((mixKind P w).hash k) v = z at p1 f1 r1 l1 ⊢
    rcases z with ⟨es1, t1, wd, gave⟩
    dsimp only at p1 f1 r1 l1 ⊢
    rw [Array.toList_push] at p1
    have pc : es1.toList.Perm (((mixKind P w).hash k, v) :: es.toList) := p1.trans (List.perm_append_singleton _ _)
    have kv : keyV v = k := (is_key hv).1
    have p2 : (es1.toList.map keyE).Perm (k :: ks) := by
      refine (pc.map keyE).trans ?_
      rw [List.map_cons]
      show (keyV v :: _).Perm _
      rw [kv]
      exact pk.cons k
    have g1 : ∀ e ∈ es1.toList, EntM P w e := fun e he => by
      rcases List.mem_cons.mp (pc.mem_iff.mp he) with q | q
      · subst q
        exact ⟨by show (mixKind P w).is (keyV v) v = true; rw [kv]; exact hv, by show _ = (mixKind P w).hash (keyV v); rw [kv], sc⟩
      · exact g e q
    have nd1 : (k :: ks).Nodup := List.nodup_cons.mpr ⟨hk, nd⟩
    have hb1 : es1.size < scanBound := by
      have := p2.length_eq
      rw [List.length_map, Array.length_toList, List.length_cons] at this
      omega
    have led1 : w.params.followText "set-order" = true ∨ t1.led = true := hl.imp id fun q => l1.trans q
    have fin : ∀ h', Heap.SameBut a s.heap h' → TabM P w h' a (k :: ks) → Q true { s with heap := h' } := fun h' sb r => hQ h' true sb (by unfold addK; rw [if_neg (fun z => hk (any_mem.mp z))]; exact r)
    refine wpAny_bind (tell gave _ _ ?_)
    split
    · refine wpAny_bind ?_
      rw [hashByValue_scannable 8 sc]
      refine wpAny_pure (tab_store (fun b s₁ Q' q => ?_) ho hex hd g1 p2 nd1 hb1 ?_ ?_ ?_ fun h' sb r => wpAny_pure (fin h' sb r))
      · cases b
        · exact wpAny_pure q
        · exact wpAny_rule q
      · first | exact f1 | (split <;> first | exact f1 | exact SetTable.fits_plain_off f1)
      · first | exact r1 | (split <;> exact r1)
      · first | exact led1 | (split <;> exact led1)
    · refine wpAny_bind (wpAny_pure ?_)
      simp only [↓reduceIte]
      refine tab_store (fun b s₁ Q' q => ?_) ho hex hd g1 p2 nd1 hb1 f1 r1 led1 fun h' sb r => wpAny_pure (fin h' sb r)
      cases b
      · exact wpAny_pure q
      · exact wpAny_rule q
end
end Pv

/-! set(xs), set(text) -/
namespace Pv
open PySem PySem.Spec PyProof.Rows L2
/-- the keys that stand in kk, each once -/
def onceK (kk : List Key) : List Key := kk.foldl (fun ks k => addK k ks) []
theorem onceK_snoc (kk : List Key) (k : Key) : onceK (kk ++ [k]) = addK k (onceK kk) := by unfold onceK; rw [List.foldl_append]; rfl
theorem onceK_len (kk : List Key) : (onceK kk).length ≤ kk.length := by
  have : ∀ n, (onceK (kk.take n)).length ≤ n := fun n => by
    induction n with
    | zero => exact Nat.le_refl _
    | succ n ih =>
      by_cases h : n < kk.length
      · rw [List.take_succ_eq_append_getElem h, onceK_snoc]
        exact Nat.le_trans (addK_len _ _) (Nat.succ_le_succ ih)
      · rw [List.take_of_length_le (by omega)]
        rw [List.take_of_length_le (by omega)] at ih
        omega
  have h := this kk.length
  rw [List.take_length] at h
  exact h
theorem mem_onceK {kk : List Key} {k : Key} : k ∈ onceK kk ↔ k ∈ kk := by
  have : ∀ (l acc : List Key), k ∈ l.foldl (fun ks k => addK k ks) acc ↔ k ∈ l ∨ k ∈ acc := by
    intro l
    induction l with
    | nil => intro acc; simp
    | cons x l ih =>
      intro acc
      rw [List.foldl_cons, ih, mem_addK, List.mem_cons]
      exact ⟨fun h => h.elim (fun h => .inl (.inr h)) fun h => h.elim (fun h => .inl (.inl h)) .inr, fun h => h.elim (fun h => h.elim (fun h => .inr (.inl h)) .inl) fun h => .inr (.inr h)⟩
  unfold onceK
  rw [this]
  simp
section
variable {P : Program} {w : World} {A : Around} {E : Value → Shared → Prop} {s : Shared}
theorem tab_loop {I : Addr} {fp wr : List Addr} {G : Array GenState → Array GenState → Prop} {n : Nat} {Pv : Nat → Value → Prop} {St : Nat → Shared → Prop} {R : Result → Shared → Prop}
    (W : WalksS P w A.in1 I fp wr G n Pv St) (D : Addr) (hD : D ∉ fp) (kk : List Key) (hn : n = kk.length) (hb : kk.length + 1 < scanBound) (hval : ∀ i v, Pv i v → ∃ k, kk[i]? = some k ∧ (mixKind P w).is k v = true) :
    ∀ (m i : Nat) (s : Shared), n = i + m → St i s → TabM P w s.heap D (onceK (kk.take i)) →
      (∀ s', Moved (D :: wr) G s s' → TabM P w s'.heap D (onceK kk) → R (.ok (.ret .none)) s') →
      codeAny (model P w) A (.builtin "set.update.loop" ⟨[.ref D, .ref I], []⟩) R s := by
  have hDw : D ∉ wr := fun h => hD (W.sub _ h)
  have more : ∀ b ∈ wr, b ∈ D :: wr := fun b hb => List.mem_cons_of_mem _ hb
  intro m
  induction m with
  | zero =>
    intro i s e st T hR
    have e1 : i = n := by omega
    subst e1
    rw [List.take_of_length_le (by omega)] at T
    refine codeAny_builtin F.entry_set_update_loop ?_
    rw [Around.under_plainId F.plain_set_update_loop _]
    show wpAny (model P w) A.in1 (pyNext (.ref I) >>= _) _ _ s
    refine wpAny_bind (W.done s _ _ st fun s1 mv => ?_)
    show wpAny (model P w) A.in1 (ret Value.none) _ _ s1
    exact wpAny_pure (hR s1 (mv.mono more) (T.at fun o q => mv.heap D o hDw q))
  | succ m ih =>
    intro i s e st T hR
    have hi : i < n := by omega
    refine codeAny_builtin F.entry_set_update_loop ?_
    rw [Around.under_plainId F.plain_set_update_loop _]
    show wpAny (model P w) A.in1 (pyNext (.ref I) >>= _) _ _ s
    refine wpAny_bind (W.item i s _ _ hi st fun v s1 pv st1 mv => ?_)
    obtain ⟨k, hk, hv⟩ := hval i v pv
    have T1 : TabM P w s1.heap D (onceK (kk.take i)) := T.at fun o q => mv.heap D o hDw q
    have sv := is_key hv
    show wpAny (model P w) A.in1 (holding [v] (setAdd D v) >>= _) _ _ s1
    refine wpAny_bind (wpAny_holding ?_)
    unfold setAdd
    refine wpAny_holding (wpAny_bind ((mixKind P w).pyHash (k := k) hv ?_))
    have hlen : (onceK (kk.take i)).length + 1 < scanBound := by
      have := onceK_len (kk.take i)
      rw [List.length_take] at this
      omega
    refine tab_add (s := { s1 with toks := s1.toks + 1 }) T1 hv hlen fun h' b sb T2 => ?_
    have T3 : TabM P w h' D (onceK (kk.take (i + 1))) := by
      have hl : i < kk.length := by omega
      rw [List.take_succ_eq_append_getElem hl, onceK_snoc]
      rw [List.getElem?_eq_getElem hl] at hk
      rw [Option.some.inj hk]
      exact T2
    refine wpAny_pure ⟨plainId_quiet F.plain_set_update_loop _, ih (i + 1) _ (by omega) (W.frame _ s1 _ _ st1 (Nat.le_succ _) fun b hb o q => ?_) T3 fun s2 mv2 T4 => ?_⟩
    · rw [sb.2 b (fun z : b = D => hD (z ▸ hb))]; exact q
    · refine hR s2 (Moved.trans W.gtrans ((mv.mono more).then_heap (Nat.le_succ _) fun b o hb q => ?_) mv2) T4
      rw [sb.2 b (fun z : b = D => hb (z ▸ List.mem_cons_self))]; exact q
abbrev freshSet (w : World) : Obj := { cls := .type "set", dict := none, data := .set #[] 0 (.fresh 0 0 (!w.params.followText "set-order")) }
theorem tab_fresh {h : Heap} {a : Addr} (ho : h.get? a = some (freshSet w)) : TabM P w h a (onceK []) :=
  ⟨_, #[], 0, _, ho, ⟨rfl, rfl, rfl⟩, rfl, (fun e he => by simp at he), List.Perm.refl _, List.Pairwise.nil, by decide, by rfl, List.Pairwise.nil, by
    show _ ∨ (!w.params.followText "set-order") = true
    cases w.params.followText "set-order"
    · exact .inr rfl
    · exact .inl rfl⟩
/-- what set(x) walks through -/
structure SrcOf (P : Program) (w : World) (x : Value) (h : Heap) (kk : List Key) : Prop where
  it : ∀ {A : Around} {E : Value → Shared → Prop} {s : Shared} {Q : Value → Shared → Prop}, (∀ b o, h.get? b = some o → s.heap.get? b = some o) → A.handled = none →
    (∀ (o : Obj) (fp wr : List Addr) (Pv : Nat → Value → Prop) (St : Nat → Heap → Prop), (∀ A' : Around, A'.handled = none → PySem.Walks P w A' s.heap.objs.size fp wr kk.length Pv St) → (∀ b ∈ fp, b = s.heap.objs.size ∨ ∃ o, h.get? b = some o) → (∀ b ∈ wr, b = s.heap.objs.size) →
      (∀ i v, Pv i v → ∃ k, kk[i]? = some k ∧ (mixKind P w).is k v = true) → St 0 (s.heap.push o) → Q (.ref s.heap.objs.size) { s with heap := s.heap.push o }) → wpAny (model P w) A (pyIter x) Q E s
theorem src_list {l : Addr} {items : Array Value} {kk : List Key} {h : Heap} (hl : h.IsList l items) (hk : items.size = kk.length) (hi : ∀ (i : Nat) (v : Value), items[i]? = some v → ∃ k, kk[i]? = some k ∧ (mixKind P w).is k v = true) : SrcOf P w (.ref l) h kk where
  it := fun {A E s Q} keep hA hQ => by
    have hl2 : s.heap.IsList l items := by
      obtain ⟨o, ho, r⟩ := hl
      exact ⟨o, keep l o ho, r⟩
    have hlt : l < s.heap.objs.size := by
      obtain ⟨o, ho, _⟩ := hl2
      exact Heap.lt_size ho
    have hne : l ≠ s.heap.objs.size := Nat.ne_of_lt hlt
    refine wpAny_pyIter_list hl2 (hQ _ [s.heap.objs.size, l] [s.heap.objs.size] (fun i v => items[i]? = some v) (fun i h => h.IsListIter s.heap.objs.size l i ∧ h.IsList l items) (fun A' hA' => hk ▸ PySem.Walks.list hA' _ l hne items) (fun b hb => ?_) (fun b hb => List.mem_singleton.mp hb) hi ⟨⟨_, Heap.get?_push_size _ rfl, rfl, rfl⟩, hl2.push _⟩)
    rcases List.mem_cons.mp hb with e | hb
    · exact .inl e
    · obtain ⟨o, ho, _⟩ := hl
      exact .inr ⟨o, (List.mem_singleton.mp hb) ▸ ho⟩
theorem src_text {x : Str} {t : Tok} {h : Heap} : SrcOf P w (.str x t) h (x.cps.toList.map fun c => Sum.inr (⟨#[c]⟩ : Str)) where
  it := fun {A E s Q} keep hA hQ => by
    refine wpAny_pyIter_str fun o St W st => ?_
    refine hQ o [s.heap.objs.size] [s.heap.objs.size] (SignAt x) St (fun A' hA' => by rw [List.length_map, Array.length_toList]; exact W A' hA') (fun b hb => .inl (List.mem_singleton.mp hb)) (fun b hb => List.mem_singleton.mp hb) (fun i v hv => ?_) st
    obtain ⟨c, u, hc, rfl⟩ := hv
    refine ⟨.inr ⟨#[c]⟩, by rw [List.getElem?_map, Array.getElem?_toList, hc]; rfl, ?_⟩
    exact keyIs_str _ u
end
end Pv

/-! set(x): the call -/
namespace Pv
open PySem PySem.Spec PyProof.Rows L2
section
variable {P : Program} {w : World} {A : Around} {E : Value → Shared → Prop} {s : Shared}
/-- the loop over the source, behind the checks of set.__init__ -/
theorem tab_run {x : Value} {kk : List Key} {h0 : Heap} {D : Addr} {Z : Unit → Shared → Prop} (S : SrcOf P w x h0 kk) (hA : A.handled = none) (hb : kk.length + 1 < scanBound)
    (keep : ∀ b o, h0.get? b = some o → s.heap.get? b = some o) (hD : h0.get? D = none) (hset : s.heap.get? D = some (freshSet w))
    (hZ : ∀ h' tk, TabM P w h' D (onceK kk) → (∀ b o, h0.get? b = some o → h'.get? b = some o) → Z () { s with heap := h', toks := tk }) :
    wpAny (model P w) A (pyIter x) (fun it s' => wpAny (model P w) A (do
      let _ ← runValue (.builtin "set.update.loop" ⟨[.ref D, it], []⟩)
      pure ()) Z E s') E s := by
  refine S.it keep hA fun o fp wr Pv St W hfp hwr hval st0 => ?_
  have hDlt : D < s.heap.objs.size := Heap.lt_size hset
  have hDI : D ≠ s.heap.objs.size := Nat.ne_of_lt hDlt
  have hDf : D ∉ fp := fun z => by
    rcases hfp D z with e | ⟨o, e⟩
    · exact hDI e
    · rw [hD] at e; cases e
  have hA1 : A.in1.handled = none := by simp [hA]
  have W1 := (W A.in1 hA1).toS
  refine wpAny_bind (wpAny_runValue (tab_loop W1 D hDf kk rfl hb hval kk.length 0 _ (by omega) st0 (tab_fresh (Heap.get?_push_of_some _ hset)) fun s' mv T => ?_))
  obtain ⟨h', g', d', tk', os'⟩ := s'
  have eg : g' = s.gens := mv.gens
  have ed : d' = s.drawn := mv.drawn
  have eo : os' = s.os := mv.os
  subst eg ed eo
  refine wpAny_pure (hZ h' tk' T fun b o q => ?_)
  have hbl : b < s.heap.objs.size := Heap.lt_size (keep b o q)
  refine mv.heap b o (fun z => ?_) (Heap.get?_push_of_some _ (keep b o q))
  rcases List.mem_cons.mp z with e | z
  · rw [e, hD] at q; cases q
  · exact Nat.ne_of_lt hbl (hwr b z)
/-- set.__init__(new, x) -/
def InitOf (P : Program) (w : World) (A : Around) (x : Value) (s : Shared) (kk : List Key) : Prop := ∀ {R : PySem.Fin → Shared → Prop} {E' : Value → Shared → Prop},
  (∀ h' tk, TabM P w h' s.heap.objs.size (onceK kk) → (∀ b o, s.heap.get? b = some o → h'.get? b = some o) → R (.done (.ret .none)) { s with heap := h', toks := tk }) →
    wpAny (model P w) A (Builtin.«set.__init__» ⟨[.ref s.heap.objs.size, x], []⟩) R E' { s with heap := s.heap.push (freshSet w) }
set_option maxHeartbeats 1600000 in
theorem init_list {l : Addr} {items : Array Value} {kk : List Key} (hA : A.handled = none) (hl : s.heap.IsList l items) (S : SrcOf P w (.ref l) s.heap kk) (hb : kk.length + 1 < scanBound) : InitOf P w A (.ref l) s kk := by
  intro R E' hR
  have hS : (s.heap.push (freshSet w)).get? s.heap.objs.size = some (freshSet w) := Heap.get?_push_size _ rfl
  have hT : Shared.TypeIs { s with heap := s.heap.push (freshSet w) } (.ref s.heap.objs.size) "set" := ⟨_, hS, rfl⟩
  obtain ⟨⟨oc, od, ot, osl⟩, hol, hcl, nl, hdl⟩ := hl
  simp only at hcl hdl
  subst hcl hdl
  have hol1 : (s.heap.push (freshSet w)).get? l = some { cls := .type "list", dict := od, data := .seq items nl, slots := osl } := Heap.get?_push_of_some _ hol
  have ha := PySem.F.sub_list_set
  have hb1 := PySem.F.sub_list_frozenset
  have hc : (Value.type "list" == Value.type "dict") = false := by decide
  unfold Builtin.«set.__init__» noKeywords Builtin.Frozenset.updateFrom
  generalize hPI : pyIter = PI
  wp_walk
  subst hPI
  exact tab_run S hA hb (fun b o q => Heap.get?_push_of_some _ q) (by
    cases e : s.heap.get? s.heap.objs.size with
    | none => rfl
    | some o => exact absurd (Heap.lt_size e) (Nat.lt_irrefl _)) hS fun h' tk T k => wpAny_pure (hR h' tk T k)
set_option maxHeartbeats 1600000 in
theorem init_text {x : Str} {t : Tok} {kk : List Key} (hA : A.handled = none) (S : SrcOf P w (.str x t) s.heap kk) (hb : kk.length + 1 < scanBound) : InitOf P w A (.str x t) s kk := by
  intro R E' hR
  have hS : (s.heap.push (freshSet w)).get? s.heap.objs.size = some (freshSet w) := Heap.get?_push_size _ rfl
  have hT : Shared.TypeIs { s with heap := s.heap.push (freshSet w) } (.ref s.heap.objs.size) "set" := ⟨_, hS, rfl⟩
  have ha := PySem.F.sub_str_set
  have hb1 := PySem.F.sub_str_frozenset
  have hc : (Value.type "str" == Value.type "dict") = false := by decide
  unfold Builtin.«set.__init__» noKeywords Builtin.Frozenset.updateFrom
  generalize hPI : pyIter = PI
  wp_walk
  subst hPI
  exact tab_run S hA hb (fun b o q => Heap.get?_push_of_some _ q) (by
    cases e : s.heap.get? s.heap.objs.size with
    | none => rfl
    | some o => exact absurd (Heap.lt_size e) (Nat.lt_irrefl _)) hS fun h' tk T k => wpAny_pure (hR h' tk T k)
set_option maxHeartbeats 3200000 in
theorem call_setX {x : Value} {kk : List Key} {Q : Value → Shared → Prop} (hI : ∀ {A' : Around}, A'.handled = none → InitOf P w A' x s kk) (hh : A.handled = none)
    (hQ : ∀ h' tk, TabM P w h' s.heap.objs.size (onceK kk) → (∀ b o, s.heap.get? b = some o → h'.get? b = some o) → Q (.ref s.heap.objs.size) { s with heap := h', toks := tk }) :
    wpAny (model P w) A (call (.type "set") [x]) Q E s := by
  obtain ⟨cs, tl, hM⟩ := PySem.F.called_set.mro
  have hK := PySem.F.called_set.made
  have hU := PySem.F.called_set.sub
  have hN := PySem.F.called_set.notType
  have hC := PySem.F.called_set.canCreate
  have hT1 := PySem.F.typeCall_set_1 x
  refine wpAny_call (codeAny_of_tree (show wpAny _ _ (callAny (.type "set") _) _ _ _ from wpAny_pure ⟨Code.quiet_builtin _ (by decide +kernel), codeAny_builtin PySem.F.entry_type_call ?_⟩))
  rw [Around.under_plain (weight_type_call_type "set" [x] []) rfl]
  repeat (any_goals (first | assumption | wp_step))
  refine codeAny_mono (code_set_led1 x (E := E) (Q₁ := fun o s₁ => o = .ref s.heap.objs.size ∧ s₁ = { s with heap := s.heap.push (freshSet w) }) ⟨rfl, rfl⟩) fun r s₁ hr => ?_
  match r, hr with
  | .error e, hr => exact hr
  | .ok (.ret o), hr =>
    obtain ⟨rfl, rfl⟩ := hr
    have hS : (s.heap.push (freshSet w)).get? s.heap.objs.size = some (freshSet w) := Heap.get?_push_size _ rfl
    have hT : Shared.TypeIs { s with heap := s.heap.push (freshSet w) } (.ref s.heap.objs.size) "set" := ⟨_, hS, rfl⟩
    have hI1 := PySem.F.called_set.init.lookup
    have hI2 := PySem.F.called_set.init.bind (.ref s.heap.objs.size)
    repeat (any_goals (first | assumption | wp_step))
    refine codeAny_mono (codeAny_call_builtin (R := wants (fun r s₂ => r = .none ∧ ∃ h' tk, s₂ = { s with heap := h', toks := tk } ∧ TabM P w h' s.heap.objs.size (onceK kk) ∧ ∀ b o, s.heap.get? b = some o → h'.get? b = some o) E) PySem.F.called_set.init.plain PySem.F.entry_set_init (check_set_init_1 hT ?_)) fun r₂ s₂ hr₂ => ?_
    · exact hI (by simp [hh]) fun h' tk T k => ⟨rfl, h', tk, rfl, T, k⟩
    · match r₂, hr₂ with
      | .error e, hr₂ => exact hr₂
      | .ok (.ret r), hr₂ =>
        obtain ⟨rfl, h', tk, rfl, T, k⟩ := hr₂
        repeat (any_goals (first | assumption | wp_step))
        exact hQ _ _ T k
      | .ok (.next), hr₂ => exact hr₂.elim
      | .ok (.brk), hr₂ => exact hr₂.elim
      | .ok (.cont), hr₂ => exact hr₂.elim
  | .ok (.next), hr => exact hr.elim
  | .ok (.brk), hr => exact hr.elim
  | .ok (.cont), hr => exact hr.elim
end
end Pv

/-! Sorting of ints and of texts, any number of them. -/
namespace Pv
open PySem PySem.Spec PyProof.Rows L2
/-! ### plain: insertion, and that the sorted list is one -/
section
variable {α : Type} {lt : α → α → Bool}
def insB (lt : α → α → Bool) (x : α) : List α → List α
  | [] => [x]
  | y :: l => if lt y x = true then y :: insB lt x l else x :: y :: l
def isort (lt : α → α → Bool) : List α → List α
  | [] => []
  | x :: l => insB lt x (isort lt l)
theorem insB_perm (x : α) : ∀ l : List α, (insB lt x l).Perm (x :: l)
  | [] => List.Perm.refl _
  | y :: l => by
    unfold insB
    split
    · exact ((insB_perm x l).cons y).trans (List.Perm.swap x y l)
    · exact List.Perm.refl _
theorem isort_perm : ∀ l : List α, (isort lt l).Perm l
  | [] => List.Perm.refl _
  | x :: l => (insB_perm x _).trans ((isort_perm l).cons x)
theorem insB_srtd (O : SrtO.Swo lt) (x : α) : ∀ l : List α, SrtO.Srtd lt l → SrtO.Srtd lt (insB lt x l)
  | [], _ => List.pairwise_singleton _ _
  | y :: l, h => by
    obtain ⟨h1, h2⟩ := List.pairwise_cons.mp h
    unfold insB
    by_cases c : lt y x = true
    · rw [if_pos c]
      refine List.pairwise_cons.mpr ⟨fun z hz => ?_, insB_srtd O x l h2⟩
      rcases List.mem_cons.mp ((insB_perm x l).mem_iff.mp hz) with e | hz
      · rw [e]; exact O.asym _ _ c
      · exact h1 z hz
    · rw [if_neg c]
      have c' : lt y x = false := by simpa using c
      refine List.pairwise_cons.mpr ⟨fun z hz => ?_, h⟩
      rcases List.mem_cons.mp hz with e | hz
      · rw [e]; exact c'
      · exact O.tr x y z c' (h1 z hz)
theorem isort_srtd (O : SrtO.Swo lt) : ∀ l : List α, SrtO.Srtd lt (isort lt l)
  | [] => List.Pairwise.nil
  | x :: l => insB_srtd O x _ (isort_srtd O l)
theorem srtd_uniq (hl : ∀ a b, lt a b = false → lt b a = false → a = b) : ∀ {l m : List α}, l.Perm m → SrtO.Srtd lt l → SrtO.Srtd lt m → l = m
  | [], m, p, _, _ => (List.nil_perm.mp p).symm
  | x :: l, [], p, _, _ => absurd p.length_eq (by simp)
  | x :: l, y :: m, p, h1, h2 => by
    obtain ⟨a1, a2⟩ := List.pairwise_cons.mp h1
    obtain ⟨b1, b2⟩ := List.pairwise_cons.mp h2
    have e : x = y := by
      rcases List.mem_cons.mp (p.mem_iff.mp (List.mem_cons_self : x ∈ x :: l)) with e | hx
      · exact e
      · rcases List.mem_cons.mp (p.mem_iff.mpr (List.mem_cons_self : y ∈ y :: m)) with e | hy
        · exact e.symm
        · exact hl x y (b1 x hx) (a1 y hy)
    subst e
    rw [srtd_uniq hl (List.Perm.cons_inv p) a2 b2]
theorem isort_eq (O : SrtO.Swo lt) (hl : ∀ a b, lt a b = false → lt b a = false → a = b) {l m : List α} (p : l.Perm m) (h : SrtO.Srtd lt l) : l = isort lt m :=
  srtd_uniq hl (p.trans (isort_perm m).symm) h (isort_srtd O m)
end
/-! ### keys in their order -/
def ltK (a b : Key) : Bool := match a, b with
  | .inl x, .inl y => decide (x < y)
  | .inr x, .inr y => decide (x.cps.toList < y.cps.toList)
  | .inl _, .inr _ => true
  | .inr _, .inl _ => false
theorem ltK_swo : SrtO.Swo ltK := by
  refine ⟨fun a b h => ?_, fun a b c h1 h2 => ?_⟩
  · match a, b, h with
    | .inl x, .inl y, h =>
      have h := of_decide_eq_true (p := x < y) h
      exact decide_eq_false (p := y < x) (by omega)
    | .inr x, .inr y, h =>
      have h := of_decide_eq_true (p := x.cps.toList < y.cps.toList) h
      exact decide_eq_false (p := y.cps.toList < x.cps.toList) (List.lt_asymm h)
    | .inl _, .inr _, _ => rfl
  · match a, b, c, h1, h2 with
    | .inl x, .inl y, .inl z, h1, h2 =>
      have h1 := of_decide_eq_false (p := y < x) h1
      have h2 := of_decide_eq_false (p := z < y) h2
      exact decide_eq_false (p := z < x) (by omega)
    | .inr x, .inr y, .inr z, h1, h2 =>
      have h1 := of_decide_eq_false (p := y.cps.toList < x.cps.toList) h1
      have h2 := of_decide_eq_false (p := z.cps.toList < y.cps.toList) h2
      exact decide_eq_false (p := z.cps.toList < x.cps.toList) (fun h => h1 (Std.lt_of_le_of_lt (List.not_lt.mp h2) h))
    | .inl _, .inl _, .inr _, _, _ => rfl
    | .inl _, .inr _, .inr _, _, _ => rfl
    | .inl _, .inr _, .inl _, _, h2 => cases h2
    | .inr _, .inl _, _, h1, _ => cases h1
    | .inr _, .inr _, .inl _, _, h2 => cases h2
theorem ltK_lin (a b : Key) (h1 : ltK a b = false) (h2 : ltK b a = false) : a = b := by
  match a, b, h1, h2 with
  | .inl x, .inl y, h1, h2 =>
    have h1 := of_decide_eq_false (p := x < y) h1
    have h2 := of_decide_eq_false (p := y < x) h2
    exact congrArg Sum.inl (by omega)
  | .inr x, .inr y, h1, h2 =>
    have h1 := of_decide_eq_false (p := x.cps.toList < y.cps.toList) h1
    have h2 := of_decide_eq_false (p := y.cps.toList < x.cps.toList) h2
    have e := List.le_antisymm (List.not_lt.mp h2) (List.not_lt.mp h1)
    exact congrArg Sum.inr (by cases x; cases y; congr 1; exact Array.toList_inj.mp e)
  | .inl _, .inr _, h1, _ => cases h1
  | .inr _, .inl _, _, h2 => cases h2
/-- all ints, or all texts -/
def sameK (ks : List Key) : Bool := (ks.all fun k => k.isLeft) || ks.all fun k => k.isRight
def ltV (v u : Value) : Bool := ltK (keyV v) (keyV u)
theorem ltV_swo : SrtO.Swo ltV := ⟨fun x y => ltK_swo.asym _ _, fun x y z => ltK_swo.tr _ _ _⟩
section
variable {P : Program} {w : World} {A : Around} {E : Value → Shared → Prop} {s : Shared}
theorem isInt_of {v : Value} {k : Key} (h : keyIs k v = true) (hk : k.isLeft = true) : ∃ i t, v = .int i t ∧ k = .inl i := by
  rcases keyIs_shape h with ⟨i, t, rfl, rfl⟩ | ⟨x, t, rfl, rfl⟩
  · exact ⟨i, t, rfl, rfl⟩
  · cases hk
theorem isStr_of {v : Value} {k : Key} (h : keyIs k v = true) (hk : k.isRight = true) : ∃ x t, v = .str x t ∧ k = .inr x := by
  rcases keyIs_shape h with ⟨i, t, rfl, rfl⟩ | ⟨x, t, rfl, rfl⟩
  · cases hk
  · exact ⟨x, t, rfl, rfl⟩
theorem keys_sortable {a : Addr} {vs : List Value} (hk : ∀ v ∈ vs, keyIs (keyV v) v = true) (hs : sameK (vs.map keyV) = true) (h2 : 2 ≤ vs.length) : SrtO.SortableO P w A s a vs ltV := by
  unfold sameK at hs
  rw [Bool.or_eq_true] at hs
  rcases hs with hs | hs
  · have hi : ∀ v ∈ vs, ∃ i t, v = Value.int i t := fun v hv => by
      obtain ⟨i, t, e, _⟩ := isInt_of (hk v hv) (List.all_eq_true.mp hs _ (List.mem_map_of_mem hv))
      exact ⟨i, t, e⟩
    have hI := SrtO.ints_iv hi
    intro h' _
    refine ⟨oneType', fun Q E hq => ?_, fun p q hm hm' => ?_⟩
    · match vs, hI, h2 with
      | v1 :: v2 :: rest, hI, _ =>
        rw [keyKind_ints hI]
        exact wpAny_pure hq
    · obtain ⟨i, t, e⟩ := hi _ hm
      obtain ⟨j, u, e'⟩ := hi _ hm'
      show wpAny (model P w) A (keyLt' oneType' p.1 q.1) (fun r s' => s' = _ ∧ r = ltV p.1 q.1) (fun _ _ => False) _
      rw [e, e', keyLt'_oneType]
      exact oneLt_int ⟨rfl, rfl⟩
  · have hi : ∀ v ∈ vs, ∃ i t, v = Value.str i t := fun v hv => by
      obtain ⟨i, t, e, _⟩ := isStr_of (hk v hv) (List.all_eq_true.mp hs _ (List.mem_map_of_mem hv))
      exact ⟨i, t, e⟩
    have hS : ∀ {l : List Value}, (∀ v ∈ l, ∃ i t, v = Value.str i t) → ∃ xs, StrsAre l xs := fun {l} h => by
      induction l with
      | nil => exact ⟨[], .nil⟩
      | cons v l ih =>
        obtain ⟨xs, hx⟩ := ih fun u hu => h u (List.mem_cons_of_mem _ hu)
        obtain ⟨i, t, e⟩ := h v List.mem_cons_self
        subst e
        exact ⟨i :: xs, .cons i t hx⟩
    obtain ⟨xs, hX⟩ := hS hi
    intro h' _
    refine ⟨oneType', fun Q E hq => ?_, fun p q hm hm' => ?_⟩
    · match vs, hX, h2 with
      | v1 :: v2 :: rest, hX, _ =>
        rw [keyKind_strs hX]
        exact wpAny_pure hq
    · obtain ⟨i, t, e⟩ := hi _ hm
      obtain ⟨j, u, e'⟩ := hi _ hm'
      show wpAny (model P w) A (keyLt' oneType' p.1 q.1) (fun r s' => s' = _ ∧ r = ltV p.1 q.1) (fun _ _ => False) _
      rw [e, e', keyLt'_oneType]
      exact oneLt_str ⟨rfl, rfl⟩
theorem out_keys {vs out : List Value} (h1 : SrtO.Srtd ltV out) (h2 : SrtO.Stb ltV out vs) : out.map keyV = isort ltK (vs.map keyV) :=
  isort_eq ltK_swo ltK_lin (h2.perm.map keyV) (List.pairwise_map.mpr h1)
end
end Pv

/-! sorted(xs), sorted(set(x)), sorted(d): the calls -/
namespace Pv
open PySem PySem.Spec PyProof.Rows L2
theorem vals_keys : ∀ {ks : List Key} {us : List Value}, Vals (ks.map kV) us → us.map keyV = ks ∧ ∀ v ∈ us, keyIs (keyV v) v = true
  | [], _, .nil => ⟨rfl, fun v h => by cases h⟩
  | k :: ks, u :: us, .cons r t => by
    obtain ⟨e, h⟩ := vals_keys t
    have hk : keyV u = k ∧ keyIs k u = true := by
      cases k with
      | inl i => obtain ⟨tk, rfl⟩ := r; exact ⟨rfl, keyIs_int i tk⟩
      | inr x => obtain ⟨tk, rfl⟩ := r; exact ⟨rfl, keyIs_str x tk⟩
    refine ⟨by rw [List.map_cons, hk.1, e], fun v hv => ?_⟩
    rcases List.mem_cons.mp hv with q | hv
    · rw [q, hk.1]; exact hk.2
    · exact h v hv
theorem vals_of : ∀ {us : List Value}, (∀ v ∈ us, keyIs (keyV v) v = true) → Vals ((us.map keyV).map kV) us
  | [], _ => .nil
  | v :: us, h => by
    refine .cons ?_ (vals_of fun u hu => h u (List.mem_cons_of_mem _ hu))
    rcases keyIs_shape (h v List.mem_cons_self) with ⟨i, t, e, rfl⟩ | ⟨x, t, e, rfl⟩
    · exact ⟨t, rfl⟩
    · exact ⟨t, rfl⟩
theorem sameK_perm {l m : List Key} (p : l.Perm m) (h : sameK m = true) : sameK l = true := by
  unfold sameK at h ⊢
  rw [Bool.or_eq_true] at h ⊢
  exact h.imp (fun h => List.all_eq_true.mpr fun x hx => List.all_eq_true.mp h x (p.mem_iff.mp hx)) fun h => List.all_eq_true.mpr fun x hx => List.all_eq_true.mp h x (p.mem_iff.mp hx)
theorem sameK_sub {l m : List Key} (p : ∀ x ∈ l, x ∈ m) (h : sameK m = true) : sameK l = true := by
  unfold sameK at h ⊢
  rw [Bool.or_eq_true] at h ⊢
  exact h.imp (fun h => List.all_eq_true.mpr fun x hx => List.all_eq_true.mp h x (p x hx)) fun h => List.all_eq_true.mpr fun x hx => List.all_eq_true.mp h x (p x hx)
theorem isort_of_perm {l m : List Key} (p : l.Perm m) : isort ltK l = isort ltK m := isort_eq ltK_swo ltK_lin ((isort_perm l).trans p) (isort_srtd ltK_swo l)
section
variable {P : Program} {w : World} {A : Around} {E : Value → Shared → Prop} {s : Shared} {a : Addr}
/-- the list of what was collected, sorted -/
theorem sort_tail {vs : List Value} {Q : Value → Shared → Prop} (hz : vs.length ≤ sizeLine) (hk : ∀ v ∈ vs, keyIs (keyV v) v = true) (hs : sameK (vs.map keyV) = true)
    (hQ : ∀ s' (out : List Value) (c : Nat), (∀ b o, s.heap.get? b = some o → s'.heap.get? b = some o) → s'.gens = s.gens → s'.os = s.os → s'.drawn = s.drawn → s'.heap.get? s.heap.objs.size = some (seqObj "list" out.toArray c) →
      out.map keyV = isort ltK (vs.map keyV) → (∀ v ∈ out, keyIs (keyV v) v = true) → out.length = vs.length → Q (.ref s.heap.objs.size) s') :
    wpAny (model P w) A (newList vs >>= fun l => holding [l] (call (.builtin "list.sort") [l] []) >>= fun _ => ret l) (fun fin s' => ∃ v, fin = Fin.done (Flow.ret v) ∧ Q v s') E s := by
  refine wpAny_bind (wpAny_newList ?_ hz)
  have at0 : (s.heap.push (seqObj "list" vs.toArray 0)).get? s.heap.objs.size = some (seqObj "list" vs.toArray 0) := Heap.get?_push_size _ rfl
  show wpAny _ _ _ _ _ { s with heap := s.heap.push (seqObj "list" vs.toArray 0) }
  refine wpAny_bind (wpAny_holding (wpAny_call_entry PyProof.Rows.slot_list_sort ⟨_, at0, rfl⟩ PyProof.Rows.entry_list_sort
    (SrtO.list_sort_ord (s := { s with heap := s.heap.push (seqObj "list" vs.toArray 0) }) ltV_swo at0 hz (fun h2 => keys_sortable hk hs h2) fun out h1 h2 => ⟨_, rfl, ?_⟩) (PyProof.Rows.args_list_sort _)))
  obtain ⟨c, hc⟩ := PyProof.Rows.sortedHeap_at (vs := vs) (out := out.toArray) at0
  refine wpAny_pure ⟨_, rfl, hQ _ out c (fun b o q => ?_) rfl rfl rfl hc (out_keys h1 h2) (fun v hv => hk v (h2.perm.mem_iff.mp hv)) h2.perm.length_eq⟩
  have hb : b < s.heap.objs.size := Heap.lt_size q
  show (sortedHeap (s.heap.push (seqObj "list" vs.toArray 0)) s.heap.objs.size vs out.toArray).get? b = some o
  rw [PyProof.Rows.sortedHeap_old (Nat.ne_of_lt hb) (by rw [PyProof.Rows.size_push']; exact Nat.lt_succ_of_lt hb)]
  exact Heap.get?_push_of_some _ q
theorem sorted_tab {ks : List Key} {Q : Value → Shared → Prop} (T : TabM P w s.heap a ks) (hh : A.handled = none) (hs : sameK ks = true)
    (hQ : ∀ s' p (out : List Value) (c : Nat), (∀ b o, s.heap.get? b = some o → s'.heap.get? b = some o) → s'.gens = s.gens → s'.os = s.os → s.heap.objs.size ≤ p → s'.heap.get? p = some (seqObj "list" out.toArray c) →
      out.map keyV = isort ltK ks → (∀ v ∈ out, keyIs (keyV v) v = true) → out.length ≤ sizeLine → Q (.ref p) s') :
    wpAny (model P w) A (call (.builtin "sorted") [.ref a]) Q E s := by
  obtain ⟨o, es, ep, t, ho, hex, hd, g, pk, nd, hb, hf, hr, hl⟩ := T
  refine Calls.call_function_entry PyProof.Rows.kind_sorted PyProof.Rows.plain_sorted PyProof.Rows.entry_sorted (PyProof.Rows.args_sorted1 _) ?_
  unfold Builtin.«sorted»
  refine wpAny_bind (m := checkCount "sorted" 1 1 _) (wpAny_pure ?_)
  refine wpAny_bind (collect_set (A := A.in1) hh ⟨o, ho, hex.1, hd⟩ hf hb hr hl fun s1 vs k1 hz g1 o1 pm => ?_)
  have hvl : vs.length ≤ sizeLine := by
    rw [pm.length_eq, List.length_map, Array.length_toList, sizeLine_eq]
    have : es.size < 4096 := hb
    omega
  have hvk : ∀ v ∈ vs, keyIs (keyV v) v = true := fun v hv => by
    obtain ⟨e, he, q⟩ := List.mem_map.mp (pm.mem_iff.mp hv)
    rw [← q]
    exact (g e he).1
  have pv : (vs.map keyV).Perm ks := by
    have q := pm.map keyV
    rw [List.map_map] at q
    exact q.trans pk
  refine sort_tail hvl hvk (sameK_perm pv hs) fun s' out c k2 g2 o2 d2 hat ho hok hlen => ?_
  exact hQ s' _ out c (fun b o q => k2 b o (k1 b o q)) (g2.trans g1) (o2.trans o1) hz hat (ho.trans (isort_of_perm pv)) hok (by omega)
end
end Pv

/-! sorted: the rules -/
namespace Pv
open PySem PySem.Spec PyProof.Rows L2
section
variable {X : Cx}
theorem cr_sortK : CallR X (.builtin "sorted") (fun vs H Q => ∃ (a : Addr) (ks : List Key), vs = [V.ref a] ∧ SqL X.K H a (ks.map kV) ∧ sameK ks = true ∧ ∀ p, H p = none → Q (.ref p) (upd H p (.lst ((isort ltK ks).map kV)))) := by
  intro pins s σ H vs us Q I r h
  obtain ⟨a, ks, rfl, hs, hsame, q⟩ := h
  obtain ⟨its, rv, hl, hz⟩ := I.list hs
  rw [Vals.ref1 r]
  obtain ⟨ek, hk⟩ := vals_keys rv
  have hz2 : its.length ≤ sizeLine := by rw [← rv.length]; exact hz
  refine SrtO.sorted_ord ltV_swo hl.isList hz2 (fun h2 h₁ a' _ _ => keys_sortable hk (by rw [ek]; exact hsame) h2) fun out h1 h2 => ?_
  have eo : out.map keyV = isort ltK ks := by rw [out_keys h1 h2, ek]
  have ho : ∀ v ∈ out, keyIs (keyV v) v = true := fun v hv => hk v (h2.perm.mem_iff.mp hv)
  have hv := vals_of ho
  rw [eo] at hv
  obtain ⟨ep, he⟩ := PyProof.Rows.sortedAll_at s.heap its out.toArray
  have hlen : ((isort ltK ks).map kV).length ≤ sizeLine := by rw [hv.length, h2.perm.length_eq]; exact hz2
  exact ⟨.ref _, upd H (s.heap.objs.size + 1) (.lst ((isort ltK ks).map kV)), I.laid (t' := s.toks) (fun _ _ => PyProof.Rows.sortedAll_old) (Nat.le_succ _) ⟨hlen, out, ep, hv, he⟩, rfl, q _ (I.hok.fresh (Nat.le_succ _))⟩
/-- sorted(d): its keys -/
theorem cr_sortD (hcalm : X.calm = true) : CallR X (.builtin "sorted") (fun vs H Q => ∃ (a : Addr) (kvs : List (Key × V)), vs = [V.ref a] ∧ Rd H a (.dK kvs) ∧ sameK (kvs.map (·.1)) = true ∧ ∀ p, H p = none → Q (.ref p) (upd H p (.lst ((isort ltK (kvs.map (·.1))).map kV)))) := by
  intro pins s σ H vs us Q I r h
  obtain ⟨a, kvs, rfl, hd, hsame, q⟩ := h
  rw [Vals.ref1 r]
  obtain ⟨z, lo, es, rel, dd⟩ := dk_rd I.hok hd
  obtain ⟨ep, hat⟩ := dd.dictAt
  have hkeys : es.map (·.1) = kvs.map (·.1) := rel.keys.symm
  have hl : es.length ≤ sizeLine := by
    have e := congrArg List.length hkeys
    rw [List.length_map, List.length_map] at e
    rw [e]; exact z
  refine Calls.call_function_entry PyProof.Rows.kind_sorted PyProof.Rows.plain_sorted PyProof.Rows.entry_sorted (PyProof.Rows.args_sorted1 _) ?_
  unfold Builtin.«sorted»
  refine wpAny_bind (m := checkCount "sorted" 1 1 _) (wpAny_pure ?_)
  refine wpAny_bind (PySem.W.kdu_collect (A := X.A.in1) (PySem.W.kdl_dict (knd := mixKind X.prog X.w) (kvs := es) (ep := ep) lo) (I.ok.hd hcalm) hat hl fun h' tk acc hk hacc => ?_)
  have hal : acc.toList.length = es.length := by rw [Array.length_toList, hacc.1]
  have each : ∀ (j : Nat) (v : Value), acc.toList[j]? = some v → ∃ k x, es[j]? = some (k, x) ∧ keyIs k v = true := fun j v e => hacc.2 j v (by rw [← Array.getElem?_toList]; exact e)
  have hvk : ∀ v ∈ acc.toList, keyIs (keyV v) v = true := fun v hv => by
    obtain ⟨j, hj⟩ := List.getElem?_of_mem hv
    obtain ⟨k, x, _, e⟩ := each j v hj
    rw [(is_key (P := X.prog) (w := X.w) e).1]
    exact e
  have ek : acc.toList.map keyV = kvs.map (·.1) := by
    rw [← hkeys]
    apply List.ext_getElem?
    intro j
    rw [List.getElem?_map, List.getElem?_map]
    cases e : acc.toList[j]? with
    | none =>
      have : es.length ≤ j := by rw [← hal]; exact List.getElem?_eq_none_iff.mp e
      rw [List.getElem?_eq_none this]
      rfl
    | some v =>
      obtain ⟨k, x, e1, e2⟩ := each j v e
      rw [e1]
      exact congrArg some (is_key (P := X.prog) (w := X.w) e2).1
  have I1 : Inv X pins σ H { s with heap := h', toks := tk } := I.kept hk
  refine sort_tail (s := { s with heap := h', toks := tk }) (by rw [hal]; exact hl) hvk (by rw [ek]; exact hsame) fun s' out c k2 g2 o2 d2 hat2 ho hok hlen => ?_
  have hv := vals_of hok
  rw [ho, ek] at hv
  have hlen2 : ((isort ltK (kvs.map (·.1))).map kV).length ≤ sizeLine := by rw [hv.length, hlen, hal]; exact hl
  obtain ⟨hp, gs, dr, tk', os⟩ := s'
  cases g2
  cases o2
  cases d2
  exact ⟨.ref h'.objs.size, upd H h'.objs.size (.lst ((isort ltK (kvs.map (·.1))).map kV)), I1.laid (t' := tk') k2 (Nat.le_refl _) ⟨hlen2, out, c, hv, hat2⟩, rfl, q _ (I1.hok.fresh (Nat.le_refl _))⟩
/-- what set(x) takes: a list of keys, a text -/
def KeysIn (K : PySem.W.Frag) (H : Hp) (x : V) (ks : List Key) : Prop := (∃ l, x = .ref l ∧ SqL K H l (ks.map kV)) ∨ ∃ z : Str, x = .str z ∧ ks = z.cps.toList.map fun c => Sum.inr (⟨#[c]⟩ : Str)
def tSortSet (K : PySem.W.Frag) (ta : TE) : TE := fun σ H Q => ta σ H fun x H1 => ∃ ks, KeysIn K H1 x ks ∧ ks.length < 4000 ∧ sameK ks = true ∧ ∀ p, H1 p = none → Q (.ref p) (upd H1 p (.lst ((isort ltK (onceK ks)).map kV)))
theorem pe_sortSet {a : Expr} {ta : TE} {p p2 q pos : Pos} (hc : X.calm = true) (hg : Gl X "sorted") (hm : X.mg "sorted" = none) (hb : bootBuiltins "sorted" = some (.builtin "sorted")) (hg2 : Gl X "set") (hm2 : X.mg "set" = none) (ha : PE X a ta)
    (na : starEach [a] X.env = (false, eval a X.env) :: starEach [] X.env := by rfl) : PE X (.Call (.Name "sorted" p) [.Call (.Name "set" p2) [a] [] q] [] pos) (tSortSet X.K ta) := by
  refine ⟨fun pins s σ H Q I h => ?_⟩
  refine Call_ (ld_blt I hg hm hb ?_)
  refine PyProof.Rows.callWith_builtin1 (PyProof.Rows.args_cons ?_ rfl) rfl rfl
  refine Call_ (ld_blt I hg2 hm2 boot_set ?_)
  refine PyProof.Rows.callWith_type1 (PyProof.Rows.args_cons (thn (ha.run pins s σ H _ I h) fun v s1 ⟨x, H1, I1, r1, q1⟩ => PyProof.Rows.args_nil ?_) na) na rfl
  obtain ⟨ks, hin, hlen, hsame, q1⟩ := q1
  have hh := I1.ok.hd hc
  have hroom : ks.length + 1 < scanBound := by show ks.length + 1 < 4096; omega
  have fin : ∀ h' tk, TabM X.prog X.w h' s1.heap.objs.size (onceK ks) → (∀ b o, s1.heap.get? b = some o → h'.get? b = some o) →
      wpAny (model X.prog X.w) X.A (spliced (backTo pos (starEach [] X.env))) (fun vs s₂ => wpAny (model X.prog X.w) X.A (call (.builtin "sorted") (Value.ref s1.heap.objs.size :: vs)) (EP X pins σ Q) X.xe s₂) X.xe { s1 with heap := h', toks := tk } := fun h' tk T k => by
    refine PyProof.Rows.args_nil ?_
    have I2 : Inv X pins σ H1 { s1 with heap := h', toks := tk } := I1.kept k
    have T2 : TabM X.prog X.w ({ s1 with heap := h', toks := tk } : Shared).heap s1.heap.objs.size (onceK ks) := T
    generalize ({ s1 with heap := h', toks := tk } : Shared) = s2 at I2 T2 ⊢
    refine sorted_tab (s := s2) T2 hh (sameK_sub (fun x hx => mem_onceK.mp hx) hsame) fun s' p out c kp g o hp hat ho hok hz => ?_
    have hv := vals_of hok
    rw [ho] at hv
    have hlen2 : ((isort ltK (onceK ks)).map kV).length ≤ sizeLine := by rw [hv.length]; exact hz
    have hn : H1 p = none := I2.hok.fresh hp
    have J : Inv X pins σ (upd H1 p (.lst ((isort ltK (onceK ks)).map kV))) { s2 with heap := s'.heap, gens := s'.gens, drawn := s'.drawn, toks := s'.toks } :=
      I2.call (ch := []) (Un.laid kp hp hn) (I2.hok.laid kp hp ⟨hlen2, out, c, hv, hat⟩) (by rw [g]; exact I2.bare) (fun _ z => nomatch z)
    have e : s' = { s2 with heap := s'.heap, gens := s'.gens, drawn := s'.drawn, toks := s'.toks } := by
      cases s'
      cases s2
      cases o
      rfl
    rw [e]
    exact ⟨.ref p, _, J, rfl, q1 p hn⟩
  rcases hin with ⟨l, rfl, hs⟩ | ⟨z, rfl, rfl⟩
  · cases r1
    obtain ⟨its, rv, hl, hz⟩ := I1.list hs
    obtain ⟨ek, hk⟩ := vals_keys rv
    have S : SrcOf X.prog X.w (.ref l) s1.heap ks := src_list hl.isList (by rw [List.size_toArray, ← ek, List.length_map]) fun i v hv => by
      have hv' : its[i]? = some v := by simpa using hv
      refine ⟨keyV v, ?_, hk v (List.mem_of_getElem? hv')⟩
      rw [← ek, List.getElem?_map, hv']; rfl
    exact call_setX (kk := ks) (fun hA => init_list hA hl.isList S hroom) hh fin
  · obtain ⟨t, rfl⟩ := r1
    exact call_setX (kk := _) (fun hA => init_text hA src_text hroom) hh fin
end
end Pv

/-! sorted: by mirrors -/
namespace Pv
open PySem PySem.Spec PyProof.Rows L2
def dK : Key → PyData
  | .inl i => .int i
  | .inr s => .str s
theorem rpa_keys {F : Hp} : ∀ {xs : List PyData} {vs : List V} {ks : List Key}, keysL xs = some ks → RpA F vs xs → vs = ks.map kV
  | [], _, ks, e, .nil => by cases e; rfl
  | x :: xs, _, ks, e, .cons r t => by
    have e' : (match keyP x, keysL xs with
      | some k, some ks => some (k :: ks)
      | _, _ => none) = some ks := e
    cases e1 : keyP x with
    | none => rw [e1] at e'; cases e'
    | some k =>
      cases e2 : keysL xs with
      | none => rw [e1, e2] at e'; cases e'
      | some ks2 =>
        rw [e1, e2] at e'
        cases e'
        rw [List.map_cons, ← rpa_keys e2 t]
        congr 1
        cases x with
        | int i => cases e1; cases r; rfl
        | str i => cases e1; cases r; rfl
        | none => cases e1
        | bool _ => cases e1
        | list _ => cases e1
        | tuple _ => cases e1
        | dict _ => cases e1
theorem rpa_of_keys {F : Hp} : ∀ ks : List Key, RpA F (ks.map kV) (ks.map dK)
  | [] => .nil
  | .inl i :: ks => .cons (.int i) (rpa_of_keys ks)
  | .inr x :: ks => .cons (.str x) (rpa_of_keys ks)
def srtL (ks : List Key) : Option Vr := if sameK ks = true then some (.li ((isort ltK ks).map dK)) else none
def fSort (x : PyData) : Option Vr := match x with
  | .list xs => (keysL xs).bind srtL
  | _ => none
def srtS (ks : List Key) : Option Vr := if ks.length < 4000 ∧ sameK ks = true then some (.li ((isort ltK (onceK ks)).map dK)) else none
def fSortSet (x : PyData) : Option Vr := match x with
  | .list xs => (keysL xs).bind srtS
  | .str z => srtS (z.cps.toList.map fun c => Sum.inr (⟨#[c]⟩ : Str))
  | _ => none
def mSortD (i : Nat) : ME := fun ρ => match ρ[i]? with
  | some (.o (.k kvs)) => if sameK (kvs.map (·.1)) = true then some (.ok (.o (.l ((isort ltK (kvs.map (·.1))).map dK))) ρ) else none
  | _ => none
section
variable {X : Cx} {w : WC} {K : PySem.W.Frag} {σ : L2.St} {H : Hp} {e : Expr} {pos : Pos}
theorem c_sort : ∀ u H Q, rF1 fSort u H Q → (fun (vs : List V) (H : Hp) (Q : VK) => ∃ (a : Addr) (ks : List Key), vs = [V.ref a] ∧ SqL K H a (ks.map kV) ∧ sameK ks = true ∧ ∀ p, H p = none → Q (.ref p) (upd H p (.lst ((isort ltK ks).map kV)))) [u] H Q := by
  intro u H Q ⟨F, d, r, sm, hx, hf, k⟩
  cases d with
  | list xs =>
    obtain ⟨p, vs, rfl, hp, ra⟩ := hx.list sm
    have hf' : (keysL xs).bind srtL = some r := hf
    cases e1 : keysL xs with
    | none => rw [e1] at hf'; cases hf'
    | some ks =>
      rw [e1] at hf'
      have hf2 : (if sameK ks = true then some (Vr.li ((isort ltK ks).map dK)) else none) = some r := hf'
      by_cases c : sameK ks = true
      · rw [if_pos c] at hf2
        cases hf2
        rw [rpa_keys e1 ra] at hp
        exact ⟨p, ks, rfl, SqL.of hp, c, fun q n => k _ q (rpa_of_keys _) n⟩
      · rw [if_neg c] at hf2; cases hf2
  | none => cases hf
  | bool _ => cases hf
  | int _ => cases hf
  | str _ => cases hf
  | tuple _ => cases hf
  | dict _ => cases hf
theorem sortSet_of {ma : ME} {Q : VK} (h : tE K w (mOp1 fSortSet ma) σ H Q) : tSortSet K (tE K w ma) σ H Q := by
  obtain ⟨fr, F, ρ, S, h1⟩ := op1_of h
  refine ⟨fr, F, ρ, S, h1.imp fun _ _ _ H1 u _ _ _ q => ?_⟩
  obtain ⟨F, d, r, sm, hx, hf, k⟩ := q
  have go : ∀ ks, KeysIn K H1 u ks → srtS ks = some r → ∃ ks, KeysIn K H1 u ks ∧ ks.length < 4000 ∧ sameK ks = true ∧ ∀ p, H1 p = none → Q (.ref p) (upd H1 p (.lst ((isort ltK (onceK ks)).map kV))) := fun ks hk hs => by
    unfold srtS at hs
    by_cases c : ks.length < 4000 ∧ sameK ks = true
    · rw [if_pos c] at hs
      cases hs
      exact ⟨ks, hk, c.1, c.2, fun q n => k _ q (rpa_of_keys _) n⟩
    · rw [if_neg c] at hs; cases hs
  cases d with
  | list xs =>
    obtain ⟨p, vs, rfl, hp, ra⟩ := hx.list sm
    have hf' : (keysL xs).bind srtS = some r := hf
    cases e1 : keysL xs with
    | none => rw [e1] at hf'; cases hf'
    | some ks =>
      rw [e1] at hf'
      rw [rpa_keys e1 ra] at hp
      exact go ks (.inl ⟨p, rfl, SqL.of hp⟩) hf'
  | str z =>
    have e1 := hx.sc rfl
    subst e1
    exact go _ (.inr ⟨z, rfl, rfl⟩) hf
  | none => cases hf
  | bool _ => cases hf
  | int _ => cases hf
  | tuple _ => cases hf
  | dict _ => cases hf
theorem e_sortSet {a : Expr} {ma : ME} {p p2 q : Pos} (hc : X.calm = true) (hg : Gl X "sorted") (hm : X.mg "sorted" = none) (hb : bootBuiltins "sorted" = some (.builtin "sorted")) (hg2 : Gl X "set") (hm2 : X.mg "set" = none) (ha : PE X a (tE X.K w ma))
    (na : starEach [a] X.env = (false, eval a X.env) :: starEach [] X.env := by rfl) : PE X (.Call (.Name "sorted" p) [.Call (.Name "set" p2) [a] [] q] [] pos) (tE X.K w (mOp1 fSortSet ma)) :=
  wkE (pe_sortSet hc hg hm hb hg2 hm2 ha na) fun _ _ _ h => sortSet_of h
theorem rpk_keys {F : Hp} {ks : List (Key × V)} {kvs : List (Key × PyData)} (r : RpK F ks kvs) : ks.map (·.1) = kvs.map (·.1) := by
  induction r with
  | nil => rfl
  | cons a _ ih => rw [List.map_cons, List.map_cons, ih, a.1]
theorem sortD_of {i : Nat} {Q : VK} (h : tE K w (mSortD i) σ H Q) : tCB (fun (vs : List V) (H : Hp) (Q : VK) => ∃ (a : Addr) (kvs : List (Key × V)), vs = [V.ref a] ∧ Rd H a (.dK kvs) ∧ sameK (kvs.map (·.1)) = true ∧ ∀ p, H p = none → Q (.ref p) (upd H p (.lst ((isort ltK (kvs.map (·.1))).map kV)))) (tCons (tVar i) tNil) σ H Q := by
  obtain ⟨fr, F, ρ, S, h⟩ := h
  have h' : WPg K w EvRep Q fr F σ (match ρ[i]? with
  | some (.o (.k kvs)) => if sameK (kvs.map (·.1)) = true then some (.ok (.o (.l ((isort ltK (kvs.map (·.1))).map dK))) ρ) else none
  | _ => none) := h
  cases e : ρ[i]? with
  | none => rw [e] at h'; exact h'.elim
  | some s =>
    rw [e] at h'
    have q := S.at e
    match s, q, h' with
    | .no, q, h' => exact h'.elim
    | .d x, q, h' => exact h'.elim
    | .r c, q, h' => exact h'.elim
    | .scr c, q, h' => exact h'.elim
    | .o (.l _), q, h' => exact h'.elim
    | .o (.t _), q, h' => exact h'.elim
    | .o (.k kvs), q, h' =>
      obtain ⟨p, a, _, _, ks, hp, rk⟩ := q
      have ek := rpk_keys rk
      by_cases c : sameK (kvs.map (·.1)) = true
      · have h2 : WPg K w EvRep Q fr F σ (some (.ok (.o (.l ((isort ltK (kvs.map (·.1))).map dK))) ρ)) := by
          have h3 : WPg K w EvRep Q fr F σ (if sameK (kvs.map (·.1)) = true then some (.ok (.o (.l ((isort ltK (kvs.map (·.1))).map dK))) ρ) else none) := h'
          rw [if_pos c] at h3
          exact h3
        refine ⟨_, a, p, ks, rfl, Rd.of hp, by rw [ek]; exact c, fun q n => ?_⟩
        have wv := WVr_of (r := .li ((isort ltK (kvs.map (·.1))).map dK)) S h2
        have := wv _ q (rpa_of_keys _) n
        rw [ek]
        exact this
      · have h3 : WPg K w EvRep Q fr F σ (if sameK (kvs.map (·.1)) = true then some (.ok (.o (.l ((isort ltK (kvs.map (·.1))).map dK))) ρ) else none) := h'
        rw [if_neg c] at h3
        exact h3.elim
theorem e_sortD {i : Nat} {y : Str} {p q : Pos} (hc : X.calm = true) (hN : X.N[i]? = some y) (hv : Vis X.env.scope y) (hg : Gl X "sorted") (hm : X.mg "sorted" = none) (hb : bootBuiltins "sorted" = some (.builtin "sorted")) (hd : (y == ("__debug__" : Str)) = false := by decide) (hcd : (y == ("__classdict__" : Str)) = false := by decide)
    (hs : starEach (.Name y q :: []) X.env = (false, eval (.Name y q) X.env) :: starEach [] X.env := by rfl) (hpl : (backTo pos (starEach [] X.env)).any (·.1) = false := by rfl) :
    PE X (.Call (.Name "sorted" p) [.Name y q] [] pos) (tE X.K w (mSortD i)) :=
  wkE (pe_callB (cr_sortD hc) hg hm hb (pa_cons (pe_var hN hv hd hcd) pa_nil hs) (by decide) (by decide) hs hpl) fun _ _ _ h => sortD_of h
end
@[simp] theorem mSortD_ap {ρ : Rho} {i : Nat} : mSortD i ρ = match ρ[i]? with
  | some (.o (.k kvs)) => if sameK (kvs.map (·.1)) = true then some (.ok (.o (.l ((isort ltK (kvs.map (·.1))).map dK))) ρ) else none
  | _ => none := rfl
end Pv

/-! list(range(..)); text.count(letter), text.index(letter) -/
namespace Pv
open PySem PySem.Spec PyProof.Rows L2
/-! ### the places of a letter -/
theorem occ_walk (x : Str) (c limit : Nat) : ∀ (n a free : Nat) (acc : Array Nat), free ≤ a → acc.size ≤ limit →
    (forIn (List.range' a n) (acc, free) (StrLaws.occBody x ⟨#[c]⟩ x.length limit)).run.fst.toList = acc.toList ++ ((List.range' a n).filter fun j => decide (x.cps.toList[j]? = some c)).take (limit - acc.size)
  | 0, a, free, acc, _, _ => by simp
  | n + 1, a, free, acc, hf, hl => by
    rw [List.range'_succ, List.forIn_cons]
    unfold StrLaws.occBody
    have hs := StrLaws.subAt_one x c a
    by_cases h : x.cps.toList[a]? = some c
    · have h2 := hs.mpr h
      rw [List.filter_cons_of_pos (by simpa using h)]
      by_cases hsz : acc.size < limit
      · rw [if_pos ⟨⟨⟨hsz, hf⟩, h2.1⟩, h2.2⟩]
        have ih := occ_walk x c limit n (a + 1) (a + 1) (acc.push a) (Nat.le_refl _) (by rw [Array.size_push]; omega)
        refine Eq.trans ih ?_
        rw [Array.toList_push, Array.size_push, List.append_assoc]
        congr 1
        obtain ⟨m, hm⟩ : ∃ m, limit - acc.size = m + 1 := ⟨limit - acc.size - 1, by omega⟩
        rw [hm, List.take_succ_cons, show limit - (acc.size + 1) = m by omega]
        rfl
      · rw [if_neg (fun z => hsz z.1.1.1)]
        have ih := occ_walk x c limit n (a + 1) free acc (by omega) hl
        refine Eq.trans ih ?_
        rw [show limit - acc.size = 0 by omega, List.take_zero, List.take_zero]
    · rw [List.filter_cons_of_neg (by simpa using h), if_neg (fun z => h (hs.mp ⟨z.1.2, z.2⟩))]
      exact occ_walk x c limit n (a + 1) free acc (by omega) hl
theorem filter_pl (c : Nat) : ∀ (l pre : List Nat), ((List.range' pre.length l.length).filter fun j => decide ((pre ++ l)[j]? = some c)) = (plF pre.length l c).map (· - 1)
  | [], pre => rfl
  | y :: l, pre => by
    have e : pre ++ y :: l = (pre ++ [y]) ++ l := by rw [List.append_assoc]; rfl
    have ih := filter_pl c l (pre ++ [y])
    rw [List.length_append, List.length_singleton, ← e] at ih
    have h0 : (pre ++ y :: l)[pre.length]? = some y := by rw [List.getElem?_append_right (Nat.le_refl _), Nat.sub_self]; rfl
    rw [List.length_cons, List.range'_succ]
    unfold plF
    by_cases h : y = c
    · rw [List.filter_cons_of_pos (by rw [h0, h]; exact decide_eq_true rfl), ih, if_pos h, List.map_cons, Nat.add_sub_cancel]
    · rw [List.filter_cons_of_neg (by rw [h0]; simpa using h), ih, if_neg h]
theorem occ_pl (l : List Nat) (c limit : Nat) : Builtin.Str.occurrences (mkS l) (mkS [c]) 0 l.length limit = ((pl l c).map (· - 1)).take limit := by
  have hl : (mkS l).length = l.length := by show l.toArray.size = _; simp
  have e := occ_walk (mkS l) c limit (l.length + 1) 0 0 #[] (Nat.le_refl _) (Nat.zero_le _)
  have e2 : Builtin.Str.occurrences (mkS l) (mkS [c]) 0 l.length limit = (forIn (List.range' 0 (l.length + 1 - 0)) ((#[] : Array Nat), 0) (StrLaws.occBody (mkS l) ⟨#[c]⟩ l.length limit)).run.fst.toList := StrLaws.occ_eq _ _ _ _ _
  rw [hl] at e
  rw [e2, Nat.sub_zero, e]
  show [] ++ _ = _
  rw [List.nil_append, Array.size_empty, Nat.sub_zero]
  have e3 : (List.range' 0 (l.length + 1)).filter (fun j => decide ((mkS l).cps.toList[j]? = some c)) = (pl l c).map (· - 1) := by
    rw [List.range'_concat, List.filter_append]
    have : (mkS l).cps.toList = [] ++ l := rfl
    rw [this]
    have f := filter_pl c l []
    rw [List.length_nil] at f
    rw [f, List.filter_cons_of_neg (by rw [List.nil_append, List.getElem?_eq_none (by simp)]; simp), List.filter_nil, List.append_nil]
    rfl
  rw [e3]
def fCount (x : PyData) (xs : List PyData) : Option Vr := match x, xs with
  | .str a, [.str b] => match sL b with
    | [c] => some (.it (.int ((sL a).count c : Nat)))
    | _ => none
  | _, _ => none
def fIndexS (x : PyData) (xs : List PyData) : Option Vr := match x, xs with
  | .str a, [.str b] => match sL b with
    | [c] => match pl (sL a) c with
      | p :: _ => some (.it (.int (p - 1 : Nat)))
      | [] => none
    | _ => none
  | _, _ => none
@[simp] theorem fCount_s {a : List Nat} {c : Nat} : fCount (tx a) [tx [c]] = some (.it (.int (a.count c : Nat))) := rfl
theorem fIndexS_s {a : List Nat} {c p : Nat} {r : List Nat} (h : pl a c = p :: r) : fIndexS (tx a) [tx [c]] = some (.it (.int (p - 1 : Nat))) := by
  show (match pl a c with
      | p :: _ => some (Vr.it (.int (p - 1 : Nat)))
      | [] => none) = _
  rw [h]
theorem count_txt (l : List Nat) (c : Nat) : Txt.count (mkS l) (mkS [c]) = (l.count c : Nat) := by
  have hl : (mkS l).length = l.length := by show l.toArray.size = _; simp
  unfold Txt.count
  rw [hl, occ_pl]
  rw [List.take_of_length_le (by rw [List.length_map]; have := pl_len_le l c; omega), List.length_map]
  unfold pl
  rw [plF_len]
section
variable {X : Cx} {w : WC} {K : PySem.W.Frag} {σ : L2.St} {H : Hp} {e : Expr} {pos : Pos}
theorem m_count : ∀ u us H Q, rFM fCount u us H Q → (fun (x : V) (xs : List V) (H : Hp) (Q : VK) => ∃ a b, x = .str a ∧ xs = [.str b] ∧ Q (.int (Txt.count a b)) H) u us H Q := by
  intro u us H Q ⟨F, x, xs, r, sm, hx, ra, hf, k⟩
  unfold fCount at hf
  split at hf
  · rename_i a b
    split at hf
    · rename_i c hb
      cases hf
      have e := hx.sc rfl
      subst e
      cases ra with
      | cons r1 t =>
        cases t
        cases r1
        refine ⟨a, b, rfl, rfl, ?_⟩
        have ha : a = mkS (sL a) := (mk_sL a).symm
        have hb2 : b = mkS [c] := by rw [← hb, mk_sL]
        rw [hb2]
        conv => arg 1; arg 1; rw [ha]
        rw [count_txt]
        exact k _ (.int _)
    · cases hf
  · cases hf
theorem m_indexS : ∀ u us H Q, rFM fIndexS u us H Q → (fun (x : V) (xs : List V) (H : Hp) (Q : VK) => ∃ a b i rest, x = .str a ∧ xs = [.str b] ∧ Builtin.Str.occurrences a b 0 a.length 1 = i :: rest ∧ Q (.int (i : Nat)) H) u us H Q := by
  intro u us H Q ⟨F, x, xs, r, sm, hx, ra, hf, k⟩
  unfold fIndexS at hf
  split at hf
  · rename_i a b
    split at hf
    · rename_i c hb
      cases hp : pl (sL a) c with
      | nil => rw [hp] at hf; cases hf
      | cons p ps =>
        rw [hp] at hf
        cases hf
        have e := hx.sc rfl
        subst e
        cases ra with
        | cons r1 t =>
          cases t
          cases r1
          have hb2 : b = mkS [c] := by rw [← hb, mk_sL]
          have hl : a.length = (sL a).length := len_sL a
          have o := occ_pl (sL a) c 1
          rw [mk_sL, ← hl, hp, List.map_cons, List.take_succ_cons, List.take_zero] at o
          exact ⟨a, b, p - 1, [], rfl, rfl, by rw [hb2]; exact o, k _ (.int _)⟩
    · cases hf
  · cases hf
/-! ### list(range(..)) -/
def rgL (a b : Int) : List PyData := (List.range (b - a).toNat).map fun k => .int (a + (k : Nat))
def lrR (a b : Int) (ρ : Rho) : Option (Rg Ev) := if a.natAbs ≤ 1000000 ∧ b.natAbs ≤ 1000000 then some (.ok (.o (.l (rgL a b))) ρ) else none
def mListRange1 (me : ME) : ME := fun ρ => bd (me ρ) fun v ρ1 => match v with
  | .d (.int n) => lrR 0 n ρ1
  | _ => none
def mListRange2 (ma mb : ME) : ME := fun ρ => bd (ma ρ) fun v ρ1 => match v with
  | .d (.int a) => bd (mb ρ1) fun v2 ρ2 => match v2 with
    | .d (.int b) => lrR a b ρ2
    | _ => none
  | _ => none
theorem rpa_rg {F : Hp} (a b : Int) : RpA F (rgV a b) (rgL a b) := by
  unfold rgV rgL
  induction List.range (b - a).toNat with
  | nil => exact .nil
  | cons k l ih => exact .cons (.int _) ih
theorem lr_of {fr : Fr} {F : Hp} {ρ : Rho} {Q : VK} {a b : Int} (S : SR K fr F σ H ρ) (h : WPg K w EvRep Q fr F σ (lrR a b ρ)) : RgOk a b ∧ ∀ q, H q = none → Q (.ref q) (upd H q (.lst (rgV a b))) := by
  unfold lrR at h
  by_cases c : a.natAbs ≤ 1000000 ∧ b.natAbs ≤ 1000000
  · rw [if_pos c] at h
    exact ⟨⟨by omega, by omega, by omega, by omega, by omega⟩, fun q n => WVr_of (r := .li (rgL a b)) S h _ q (rpa_rg a b) n⟩
  · rw [if_neg c] at h; exact h.elim
theorem e_listRange1 {a : Expr} {ma : ME} {p p2 q : Pos} (hc : X.calm = true) (hg : Gl X "list") (hm : X.mg "list" = none) (hg2 : Gl X "range") (hm2 : X.mg "range" = none) (ha : PE X a (tE X.K w ma))
    (na : starEach [a] X.env = (false, eval a X.env) :: starEach [] X.env := by rfl) : PE X (.Call (.Name "list" p) [.Call (.Name "range" p2) [a] [] q] [] pos) (tE X.K w (mListRange1 ma)) :=
  wkE (pe_listRg hc hg hm (prg_1 hg2 hm2 ha na)) fun σ H Q ⟨fr, F, ρ, S, h⟩ => by
    refine ⟨fr, F, ρ, S, h.bd fun v1 ρ1 F1 H1 u1 S1 s1 r1 h1 => ?_⟩
    match v1, r1, h1 with
    | .d (.int n), r1, h1 =>
      cases r1
      exact ⟨n, rfl, lr_of S1 h1⟩
    | .b _, r1, h1 => exact h1.elim
    | .o _, r1, h1 => exact h1.elim
    | .d .none, r1, h1 => exact h1.elim
    | .d (.bool _), r1, h1 => exact h1.elim
    | .d (.str _), r1, h1 => exact h1.elim
    | .d (.list _), r1, h1 => exact h1.elim
    | .d (.tuple _), r1, h1 => exact h1.elim
    | .d (.dict _), r1, h1 => exact h1.elim
theorem e_listRange2 {a b : Expr} {ma mb : ME} {p p2 q : Pos} (hc : X.calm = true) (hg : Gl X "list") (hm : X.mg "list" = none) (hg2 : Gl X "range") (hm2 : X.mg "range" = none) (ha : PE X a (tE X.K w ma)) (hb : PE X b (tE X.K w mb))
    (na : starEach [a, b] X.env = (false, eval a X.env) :: starEach [b] X.env := by rfl) (nb : starEach [b] X.env = (false, eval b X.env) :: starEach [] X.env := by rfl) (hp : (backTo q (starEach [b] X.env)).any (·.1) = false := by rfl) :
    PE X (.Call (.Name "list" p) [.Call (.Name "range" p2) [a, b] [] q] [] pos) (tE X.K w (mListRange2 ma mb)) :=
  wkE (pe_listRg hc hg hm (prg_2 hg2 hm2 ha hb na nb hp)) fun σ H Q ⟨fr, F, ρ, S, h⟩ => by
    refine ⟨fr, F, ρ, S, h.bd fun v1 ρ1 F1 H1 u1 S1 s1 r1 h1 => ?_⟩
    match v1, r1, h1 with
    | .d (.int n), r1, h1 =>
      cases r1
      have h1' : WPg X.K w EvRep Q fr F1 σ (bd (mb ρ1) fun v2 ρ2 => match v2 with
        | .d (.int b) => lrR n b ρ2
        | _ => none) := h1
      refine ⟨fr, F1, ρ1, S1, h1'.bd fun v2 ρ2 F2 H2 u2 S2 s2 r2 h2 => ?_⟩
      match v2, r2, h2 with
      | .d (.int m), r2, h2 =>
        cases r2
        exact ⟨n, m, rfl, rfl, lr_of S2 h2⟩
      | .b _, r1, h1 => exact h1.elim
      | .o _, r1, h1 => exact h1.elim
      | .d .none, r1, h1 => exact h1.elim
      | .d (.bool _), r1, h1 => exact h1.elim
      | .d (.str _), r1, h1 => exact h1.elim
      | .d (.list _), r1, h1 => exact h1.elim
      | .d (.tuple _), r1, h1 => exact h1.elim
      | .d (.dict _), r1, h1 => exact h1.elim
    | .b _, r1, h1 => exact h1.elim
    | .o _, r1, h1 => exact h1.elim
    | .d .none, r1, h1 => exact h1.elim
    | .d (.bool _), r1, h1 => exact h1.elim
    | .d (.str _), r1, h1 => exact h1.elim
    | .d (.list _), r1, h1 => exact h1.elim
    | .d (.tuple _), r1, h1 => exact h1.elim
    | .d (.dict _), r1, h1 => exact h1.elim
end
@[simp] theorem mListRange1_ap {ρ : Rho} {me : ME} : mListRange1 me ρ = bd (me ρ) fun v ρ1 => match v with
  | .d (.int n) => lrR 0 n ρ1
  | _ => none := rfl
@[simp] theorem mListRange2_ap {ρ : Rho} {ma mb : ME} : mListRange2 ma mb ρ = bd (ma ρ) fun v ρ1 => match v with
  | .d (.int a) => bd (mb ρ1) fun v2 ρ2 => match v2 with
    | .d (.int b) => lrR a b ρ2
    | _ => none
  | _ => none := rfl
theorem lrR_eq (m n : Nat) {a b : Int} (ha : a = m) (hb : b = n) (hm : m ≤ 1000000) (hn : n ≤ 1000000) (ρ : Rho) : lrR a b ρ = some (.ok (.o (.l ((List.range (n - m)).map fun k => .int ((m + k : Nat) : Int)))) ρ) := by
  unfold lrR rgL
  rw [if_pos (by omega), ha, hb, show ((n : Int) - (m : Int)).toNat = n - m by omega]
  rfl
end Pv

/-! what the checks ask; sums, joins; one more runner of the same team -/
namespace Pv
open PySem PySem.Spec PyProof.Rows L2
def betB (v a b : Int) : Bool := decide (a ≤ v) && decide (v ≤ b)
theorem betB_iff {v a b : Int} : betB v a b = true ↔ a ≤ v ∧ v ≤ b := by simp [betB]
def letB (l s : List Nat) (n : Int) : Bool := decide ((l.length : Int) ≤ n) && l.all (fun c => decide (c ∈ s))
theorem letB_iff {l s : List Nat} {n : Int} : letB l s n = true ↔ (l.length : Int) ≤ n ∧ ∀ c ∈ l, c ∈ s := by simp [letB]
/-- an order: at most 40 of the six letters -/
def Ord (l : List Nat) : Prop := l.length ≤ 40 ∧ ∀ c ∈ l, c ∈ AB
theorem Ord.b {l : List Nat} (h : Ord l) : letB l AB 40 = true := letB_iff.mpr ⟨by have := h.1; omega, h.2⟩
theorem Ord.le {l : List Nat} (h : Ord l) : l.length ≤ 1000000 := Nat.le_trans h.1 (by decide)
def upB (l : List Nat) : Bool := (l.zip (l.drop 1)).all fun p => decide (p.1 < p.2)
def Teams (l : List Nat) : Prop := l.length ≤ 6 ∧ (∀ c ∈ l, c ∈ AB) ∧ l ≠ [] ∧ upB l = true
theorem fSum_nat {l : List Nat} {c : Nat} : fSum (.list (List.take c (l.map fun p => PyData.int (p : Nat)))) = some (.it (.int (((l.take c).sum : Nat) : Int))) := by
  rw [← List.map_take, fSum_map (f := fun p : Nat => (p : Int))]
  congr 3
  generalize l.take c = l
  induction l with
  | nil => rfl
  | cons x l ih => rw [List.map_cons, List.sum_cons, List.sum_cons, ih]; rfl
theorem fJoin_letters {l : List Nat} (h : l.length ≤ 1000000) : fJoin (tx []) [.list (l.map fun c => tx [c])] = some (.it (tx l)) := by
  have e : ∀ l : List Nat, (l.map fun p => [p]).flatten = l := fun l => by
    induction l with
    | nil => rfl
    | cons x l ih => rw [List.map_cons, List.flatten_cons, ih]; rfl
  show (match strsOf (l.map fun c => tx [c]) with
      | some ps => if ps.length ≤ 1000000 ∧ ps.flatten.length ≤ 1000000 then some (Vr.it (tx ps.flatten)) else none
      | none => none) = _
  rw [strsOf_mapF]
  show (if (l.map fun c => [c]).length ≤ 1000000 ∧ (l.map fun c => [c]).flatten.length ≤ 1000000 then some (Vr.it (tx (l.map fun c => [c]).flatten)) else none) = _
  rw [e, List.length_map, if_pos ⟨h, h⟩]
/-! one more runner of the same team -/
theorem plF_low : ∀ (o : List Nat) (i t c p : Nat), (plF i o t)[c]? = some p → i + c + 1 ≤ p
  | [], _, _, _, _, h => by cases h
  | x :: o, i, t, c, p, h => by
    unfold plF at h
    split at h
    · cases c with
      | zero => cases h; omega
      | succ c =>
        have := plF_low o (i + 1) t c p h
        omega
    · have := plF_low o (i + 1) t c p h
      omega
theorem take_sum_succ (l : List Nat) (c p : Nat) (h : l[c]? = some p) : (l.take (c + 1)).sum = (l.take c).sum + p := by
  rw [List.take_add_one, h, List.sum_append]
  show _ + (p + 0) = _
  omega
theorem sum_map_add (l : List Nat) (k : Nat) : (l.map (· + k)).sum = l.sum + k * l.length := by
  induction l with
  | nil => rfl
  | cons x l ih => rw [List.map_cons, List.sum_cons, ih, List.sum_cons, List.length_cons, Nat.mul_succ]; omega
theorem front_sum (o : List Nat) (i t c : Nat) (h : c ≤ (plF i o t).length) : ((plF i (t :: o) t).take c).sum ≤ ((plF i o t).take c).sum := by
  cases c with
  | zero => exact Nat.le_refl _
  | succ c =>
    have e : plF i (t :: o) t = (i + 1) :: (plF i o t).map (· + 1) := by
      rw [← plF_shift]
      show (if t = t then _ else _) = _
      rw [if_pos rfl]
    obtain ⟨p, hp⟩ : ∃ p, (plF i o t)[c]? = some p := ⟨_, List.getElem?_eq_getElem (by omega)⟩
    have lo := plF_low o i t c p hp
    rw [e, List.take_succ_cons, List.sum_cons, ← List.map_take, sum_map_add, List.length_take, take_sum_succ _ _ _ hp, Nat.min_eq_left (by omega)]
    omega
theorem ins_sum : ∀ (o : List Nat) (g i t c : Nat), c ≤ (plF i o t).length → ((plF i (o.take g ++ t :: o.drop g) t).take c).sum ≤ ((plF i o t).take c).sum
  | o, 0, i, t, c, h => by
    rw [List.take_zero, List.drop_zero, List.nil_append]
    exact front_sum o i t c h
  | [], g + 1, i, t, c, h => by
    rw [List.take_nil, List.drop_nil, List.nil_append]
    exact front_sum [] i t c h
  | x :: o, g + 1, i, t, c, h => by
    rw [List.take_succ_cons, List.drop_succ_cons, List.cons_append]
    unfold plF at h ⊢
    split
    · rename_i hx
      rw [if_pos hx] at h
      cases c with
      | zero => exact Nat.le_refl _
      | succ c =>
        rw [List.take_succ_cons, List.take_succ_cons, List.sum_cons, List.sum_cons]
        have := ins_sum o g (i + 1) t c (by rw [List.length_cons] at h; omega)
        omega
    · rename_i hx
      rw [if_neg hx] at h
      exact ins_sum o g (i + 1) t c h
theorem putO_one (o : List Nat) (g t : Nat) : putO o g t 1 = o.take g ++ t :: o.drop g := by
  unfold putO
  rw [List.append_assoc]; rfl
theorem put_same_len (o : List Nat) (g t : Nat) : (pl (putO o g t 1) t).length = (pl o t).length + 1 := by
  unfold pl
  rw [plF_len, plF_len, putO_one, List.count_append, List.count_cons_self]
  conv => rhs; rw [← List.take_append_drop g o, List.count_append]
  omega
theorem put_same_le {o : List Nat} {g t c n m : Nat} (h : scoreN o t c = some n) (h2 : scoreN (putO o g t 1) t c = some m) : m ≤ n := by
  unfold scoreN at h h2
  by_cases z : c ≤ (pl o t).length
  · rw [if_pos z] at h
    rw [if_pos (by rw [put_same_len]; omega)] at h2
    cases h
    cases h2
    rw [putO_one]
    exact ins_sum o g 0 t c z
  · rw [if_neg z] at h; cases h
theorem putO_back {o : List Nat} {a t : Nat} (h : o[a]? = some t) : putO (o.take a ++ o.drop (a + 1)) a t 1 = o := by
  have hl : a < o.length := (List.getElem?_eq_some_iff.mp h).1
  have e : o[a] = t := (List.getElem?_eq_some_iff.mp h).2
  rw [putO_one, List.take_append_of_le_length (by rw [List.length_take]; omega), List.take_take, Nat.min_self, List.drop_append_of_le_length (by rw [List.length_take]; omega), List.drop_take_self, List.nil_append]
  conv => rhs; rw [← List.take_append_drop a o, List.drop_eq_getElem_cons hl, e]
/-- the gaps at which one more runner makes the total -/
def lostG (o : List Nat) (t c : Nat) (total : Int) : List Nat := (List.range (o.length + 1)).filter fun g => decide (score (putO o g t 1) t c = some total)
theorem flat_perm {α β : Type} [DecidableEq α] [DecidableEq β] (L : List α) (f : α → β) : ∀ (Ts : List β), Ts.Nodup → (∀ x ∈ L, f x ∈ Ts) → (Ts.flatMap fun t => L.filter fun x => decide (f x = t)).Perm L := by
  intro Ts hn hc
  refine List.perm_iff_count.mpr fun a => ?_
  have main : ∀ Ts : List β, Ts.Nodup → (Ts.flatMap fun t => L.filter fun x => decide (f x = t)).count a = if f a ∈ Ts then L.count a else 0 := by
    intro Ts
    induction Ts with
    | nil => intro _; simp
    | cons t Ts ih =>
      intro hn
      obtain ⟨h1, h2⟩ := List.nodup_cons.mp hn
      rw [List.flatMap_cons, List.count_append, ih h2]
      by_cases e : f a = t
      · rw [List.count_filter (by simpa using e), if_neg (by rw [e]; exact h1), if_pos (by rw [e]; exact List.mem_cons_self)]
        rfl
      · have z : (L.filter fun x => decide (f x = t)).count a = 0 := List.count_eq_zero.mpr fun hm => e (by simpa using (List.mem_filter.mp hm).2)
        rw [z, Nat.zero_add]
        by_cases q : f a ∈ Ts
        · rw [if_pos q, if_pos (List.mem_cons_of_mem _ q)]
        · rw [if_neg q, if_neg (fun w => (List.mem_cons.mp w).elim e q)]
  rw [main Ts hn]
  by_cases ha : a ∈ L
  · rw [if_pos (hc a ha)]
  · rw [List.count_eq_zero.mpr ha]
    split <;> rfl
end Pv

/-! States with known slots; data that may be compared; what sorted gives. -/
namespace Pv
open PySem PySem.Spec PyProof.Rows L2
/-- a state with n slots, of which some are known -/
structure Kp (n : Nat) (L : List (Nat × Sl)) (ρ : Rho) : Prop where
  g : Gd n ρ
  sl : ∀ p ∈ L, ρ[p.1]? = some p.2
theorem Kp.set {n : Nat} {L : List (Nat × Sl)} {ρ : Rho} (h : Kp n L ρ) {j : Nat} {s : Sl} (hs : nrS s = true) (hj : L.all (fun p => p.1 != j) = true) : Kp n L (ρ.set j s) :=
  ⟨h.g.set hs, fun p hp => by
    have := List.all_eq_true.mp hj p hp
    rw [List.getElem?_set_ne (fun e => by simp [e] at this)]
    exact h.sl p hp⟩
theorem Kp.put {n : Nat} {L : List (Nat × Sl)} {ρ : Rho} (h : Kp n L ρ) {j : Nat} {s : Sl} (hs : nrS s = true) (hjn : j < n) (hj : L.all (fun p => p.1 != j) = true) : Kp n ((j, s) :: L) (ρ.set j s) :=
  ⟨h.g.set hs, fun p hp => by
    rcases List.mem_cons.mp hp with e | hp
    · rw [e]; exact set_get h.g hjn
    · exact (h.set hs hj).sl p hp⟩
theorem Kp.sub {n : Nat} {L M : List (Nat × Sl)} {ρ : Rho} (h : Kp n L ρ) (hs : ∀ p ∈ M, p ∈ L) : Kp n M ρ := ⟨h.g, fun p hp => h.sl p (hs p hp)⟩
theorem Kp.setd {n : Nat} {L : List (Nat × Sl)} {ρ : Rho} (h : Kp n L ρ) (j : Nat) (x : PyData) (hj : L.all (fun p => p.1 != j) = true) : Kp n L (ρ.set j (.d x)) := h.set rfl hj
theorem Kp.seto {n : Nat} {L : List (Nat × Sl)} {ρ : Rho} (h : Kp n L ρ) (j : Nat) (x : Oc) (hj : L.all (fun p => p.1 != j) = true) : Kp n L (ρ.set j (.o x)) := h.set rfl hj
theorem Kp.putd {n : Nat} {L : List (Nat × Sl)} {ρ : Rho} (h : Kp n L ρ) (j : Nat) (x : PyData) (hjn : j < n) (hj : L.all (fun p => p.1 != j) = true) : Kp n ((j, .d x) :: L) (ρ.set j (.d x)) := h.put rfl hjn hj
theorem Kp.puto {n : Nat} {L : List (Nat × Sl)} {ρ : Rho} (h : Kp n L ρ) (j : Nat) (x : Oc) (hjn : j < n) (hj : L.all (fun p => p.1 != j) = true) : Kp n ((j, .o x) :: L) (ρ.set j (.o x)) := h.put rfl hjn hj
/-- the draw, with the known slots -/
theorem SrcAt.of {ρ : Rho} {n i : Nat} {a b : Int} (h : Gd n ρ) (hi : i < n) (hs : Src a b) : SrcAt (ρ.set i (.o (srcO a b))) i := ⟨a, b, hs, set_get h hi⟩
/-! slices one behind -/
@[simp] theorem fSl_fromS1 {l : List Nat} {k : Nat} : fSl (some ((k : Int) + 1)) none (tx l) = if l.length ≤ 1000000 then some (.it (tx (l.drop (k + 1)))) else none := fSl_fromS (k := k + 1)
@[simp] theorem fSl_toS1 {l : List Nat} {k : Nat} : fSl none (some ((k : Int) + 1)) (tx l) = if l.length ≤ 1000000 then some (.it (tx (l.take (k + 1)))) else none := fSl_toS (k := k + 1)
@[simp] theorem fSl_from1 {l : List PyData} {k : Nat} : fSl (some ((k : Int) + 1)) none (.list l) = some (.li (l.drop (k + 1))) := fSl_from (k := k + 1)
@[simp] theorem fSl_to1 {l : List PyData} {k : Nat} : fSl none (some ((k : Int) + 1)) (.list l) = some (.li (l.take (k + 1))) := fSl_to (k := k + 1)
/-! in, not in, of numbers -/
theorem inP_nat (a : Nat) (L : List Nat) : inP (.int (a : Nat)) (L.map fun n => .int (n : Nat)) = decide (a ∈ L) := by
  unfold inP
  rw [List.any_map, Bool.eq_iff_iff, List.any_eq_true, decide_eq_true_eq]
  refine ⟨fun ⟨x, hx, e⟩ => ?_, fun h => ⟨a, h, by show ((a : Int) == (a : Int)) = true; exact beq_self_eq_true _⟩⟩
  have e' : ((x : Int) == (a : Int)) = true := e
  have e2 : (x : Int) = (a : Int) := by simpa using e'
  have : x = a := by omega
  rw [← this]; exact hx
theorem sc_ints (L : List Nat) : (L.map fun n => PyData.int (n : Nat)).all scalar = true := by
  rw [List.all_map]; exact List.all_eq_true.mpr fun _ _ => rfl
@[simp] theorem fIn_nat {a : Nat} {L : List Nat} : fIn (.int (a : Nat)) (.list (L.map fun n => .int (n : Nat))) = some (.it (.bool (decide (a ∈ L)))) := by
  show (if scalar (.int (a : Nat)) = true ∧ (L.map fun n => PyData.int (n : Nat)).all scalar = true then bv (inP (.int (a : Nat)) (L.map fun n => .int (n : Nat))) else none) = _
  rw [if_pos ⟨rfl, sc_ints L⟩, inP_nat]
@[simp] theorem fNotIn_nat {a : Nat} {L : List Nat} : fNotIn (.int (a : Nat)) (.list (L.map fun n => .int (n : Nat))) = some (.it (.bool (!decide (a ∈ L)))) := by
  unfold fNotIn
  rw [fIn_nat]
/-! data that may be compared -/
def ShD (k : Nat) (d : PyData) : Prop := d.canLay0 = true ∧ d.depth ≤ k
theorem ShD.int {k : Nat} (i : Int) : ShD k (.int i) := ⟨rfl, Nat.zero_le _⟩
theorem ShD.none {k : Nat} : ShD k .none := ⟨rfl, Nat.zero_le _⟩
theorem ShD.bool {k : Nat} (b : Bool) : ShD k (.bool b) := ⟨rfl, Nat.zero_le _⟩
theorem ShD.all {k : Nat} {xs : List PyData} (h : ∀ x ∈ xs, ShD k x) : PyData.canLayAll0 xs = true ∧ PyData.depthAll xs ≤ k := by
  induction xs with
  | nil => exact ⟨rfl, Nat.zero_le _⟩
  | cons x xs ih =>
    obtain ⟨a, b⟩ := ih fun y hy => h y (List.mem_cons_of_mem _ hy)
    obtain ⟨c, d⟩ := h x List.mem_cons_self
    refine ⟨?_, ?_⟩
    · show (PyData.canLay0 x && PyData.canLayAll0 xs) = true
      rw [c, a]; rfl
    · show max (PyData.depth x) (PyData.depthAll xs) ≤ k
      omega
theorem ShD.list {k : Nat} {xs : List PyData} (h : ∀ x ∈ xs, ShD k x) : ShD (k + 1) (.list xs) := ⟨(ShD.all h).1, Nat.succ_le_succ (ShD.all h).2⟩
theorem ShD.tuple {k : Nat} {xs : List PyData} (h : ∀ x ∈ xs, ShD k x) : ShD (k + 1) (.tuple xs) := ⟨(ShD.all h).1, Nat.succ_le_succ (ShD.all h).2⟩
theorem ShD.shaped {k : Nat} {d : PyData} (h : ShD k d) (hk : k ≤ 64) : SeqAt.shaped d = true := by
  unfold SeqAt.shaped
  rw [h.1, decide_eq_true (Nat.le_trans h.2 hk)]; rfl
theorem ShD.refl {k : Nat} {d : PyData} (h : ShD k d) : PyData.eqv d d = true := SeqAt.eqv_refl d h.1
theorem fNe_list {k : Nat} {xs ys : List PyData} (h1 : ShD k (.list xs)) (h2 : ShD k (.list ys)) (hk : k ≤ 64) : fNe (.list xs) (.list ys) = some (.it (.bool (!PyData.eqv (.list xs) (.list ys)))) := by
  show (if SeqAt.shaped (.list xs) = true ∧ SeqAt.shaped (.list ys) = true then bv (!PyData.eqv (.list xs) (.list ys)) else none) = _
  rw [if_pos ⟨h1.shaped hk, h2.shaped hk⟩]
theorem fEq_list {k : Nat} {xs ys : List PyData} (h1 : ShD k (.list xs)) (h2 : ShD k (.list ys)) (hk : k ≤ 64) : fEq (.list xs) (.list ys) = some (.it (.bool (PyData.eqv (.list xs) (.list ys)))) := by
  show (if SeqAt.shaped (.list xs) = true ∧ SeqAt.shaped (.list ys) = true then bv (PyData.eqv (.list xs) (.list ys)) else none) = _
  rw [if_pos ⟨h1.shaped hk, h2.shaped hk⟩]
theorem fNe_same {k : Nat} {xs : List PyData} (h : ShD k (.list xs)) (hk : k ≤ 64) : fNe (.list xs) (.list xs) = some (.it (.bool false)) := by
  rw [fNe_list h h hk, h.refl]; rfl
theorem fEq_same {k : Nat} {xs : List PyData} (h : ShD k (.list xs)) (hk : k ≤ 64) : fEq (.list xs) (.list xs) = some (.it (.bool true)) := by
  rw [fEq_list h h hk, h.refl]
theorem ShD.nats (L : List Nat) : ShD 1 (.list (L.map fun n => .int (n : Nat))) := ShD.list fun x hx => by
  obtain ⟨n, _, rfl⟩ := List.mem_map.mp hx
  exact ShD.int _
/-! what sorted gives -/
section
variable {α : Type} [DecidableEq α]
def addB (a : α) (l : List α) : List α := if a ∈ l then l else a :: l
def onceB (l : List α) : List α := l.foldl (fun acc a => addB a acc) []
theorem mem_addB {a x : α} {l : List α} : x ∈ addB a l ↔ x = a ∨ x ∈ l := by
  unfold addB
  split
  · rename_i h
    exact ⟨.inr, fun q => q.elim (fun e => e ▸ h) id⟩
  · exact List.mem_cons
theorem once_go (l : List α) : ∀ acc : List α, acc.Nodup → (l.foldl (fun acc a => addB a acc) acc).Nodup ∧ ∀ x, x ∈ l.foldl (fun acc a => addB a acc) acc ↔ x ∈ l ∨ x ∈ acc := by
  induction l with
  | nil => intro acc h; exact ⟨h, fun x => by simp⟩
  | cons a l ih =>
    intro acc h
    have hn : (addB a acc).Nodup := by
      unfold addB
      split
      · exact h
      · rename_i q; exact List.nodup_cons.mpr ⟨q, h⟩
    obtain ⟨h1, h2⟩ := ih (addB a acc) hn
    refine ⟨h1, fun x => ?_⟩
    rw [List.foldl_cons, h2, mem_addB, List.mem_cons]
    exact ⟨fun q => q.elim (fun q => .inl (.inr q)) fun q => q.elim (fun q => .inl (.inl q)) .inr, fun q => q.elim (fun q => q.elim (fun q => .inr (.inl q)) .inl) fun q => .inr (.inr q)⟩
theorem onceB_nodup (l : List α) : (onceB l).Nodup := (once_go l [] List.Pairwise.nil).1
theorem mem_onceB {l : List α} {x : α} : x ∈ onceB l ↔ x ∈ l := ((once_go l [] List.Pairwise.nil).2 x).trans (by simp)
theorem onceK_map (g : α → Key) (hg : ∀ a b, g a = g b → a = b) (l : List α) : onceK (l.map g) = (onceB l).map g := by
  have main : ∀ acc : List α, (l.map g).foldl (fun ks k => addK k ks) (acc.map g) = (l.foldl (fun acc a => addB a acc) acc).map g := by
    induction l with
    | nil => intro acc; rfl
    | cons a l ih =>
      intro acc
      rw [List.map_cons, List.foldl_cons, List.foldl_cons, ← ih]
      congr 1
      unfold addK addB
      have e : ((acc.map g).any fun x => decide (x = g a)) = true ↔ a ∈ acc := by
        rw [any_mem, List.mem_map]
        exact ⟨fun ⟨b, hb, q⟩ => hg b a q ▸ hb, fun h => ⟨a, h, rfl⟩⟩
      by_cases h : a ∈ acc
      · rw [if_pos (e.mpr h), if_pos h]
      · rw [if_neg (fun z => h (e.mp z)), if_neg h, List.map_cons]
  exact main []
end
theorem insB_map {α β : Type} (g : α → β) (lt : β → β → Bool) (x : α) : ∀ l : List α, insB lt (g x) (l.map g) = (insB (fun a b => lt (g a) (g b)) x l).map g
  | [] => rfl
  | y :: l => by
    rw [List.map_cons]
    unfold insB
    by_cases h : lt (g y) (g x) = true
    · rw [if_pos h, if_pos h, List.map_cons, insB_map g lt x l]
    · rw [if_neg h, if_neg h, List.map_cons, List.map_cons]
theorem isort_map {α β : Type} (g : α → β) (lt : β → β → Bool) : ∀ l : List α, isort lt (l.map g) = (isort (fun a b => lt (g a) (g b)) l).map g
  | [] => rfl
  | x :: l => by
    rw [List.map_cons]
    show insB lt (g x) (isort lt (l.map g)) = _
    rw [isort_map g lt l, insB_map]; rfl
theorem keysL_map {α : Type} (d : α → PyData) (g : α → Key) (hk : ∀ a, keyP (d a) = some (g a)) : ∀ l : List α, keysL (l.map d) = some (l.map g)
  | [] => rfl
  | a :: l => by
    show (match keyP (d a), keysL (l.map d) with
      | some k, some ks => some (k :: ks)
      | _, _ => none) = _
    rw [hk, keysL_map d g hk l]; rfl
theorem swo_map {α β : Type} (g : α → β) {lt : β → β → Bool} (O : SrtO.Swo lt) : SrtO.Swo fun a b => lt (g a) (g b) := ⟨fun x y => O.asym _ _, fun x y z => O.tr _ _ _⟩
section
variable {α : Type} [DecidableEq α] (d : α → PyData) (g : α → Key)
abbrev ltG (g : α → Key) : α → α → Bool := fun a b => ltK (g a) (g b)
theorem fSortSet_map (hk : ∀ a, keyP (d a) = some (g a)) (hd : ∀ a, dK (g a) = d a) (hg : ∀ a b, g a = g b → a = b) {l : List α} (hs : sameK (l.map g) = true) (hl : l.length < 4000) :
    fSortSet (.list (l.map d)) = some (.li ((isort (ltG g) (onceB l)).map d)) := by
  show (keysL (l.map d)).bind srtS = _
  rw [keysL_map d g hk]
  show srtS (l.map g) = _
  unfold srtS
  rw [if_pos ⟨by rw [List.length_map]; exact hl, hs⟩, onceK_map g hg, isort_map, List.map_map]
  congr 3
  funext a
  exact hd a
theorem fSort_map (hk : ∀ a, keyP (d a) = some (g a)) (hd : ∀ a, dK (g a) = d a) {l : List α} (hs : sameK (l.map g) = true) : fSort (.list (l.map d)) = some (.li ((isort (ltG g) l).map d)) := by
  show (keysL (l.map d)).bind srtL = _
  rw [keysL_map d g hk]
  show srtL (l.map g) = _
  unfold srtL
  rw [if_pos hs, isort_map, List.map_map]
  congr 3
  funext a
  exact hd a
end
abbrev gN (n : Nat) : Key := .inl (n : Int)
abbrev dN (n : Nat) : PyData := .int (n : Nat)
abbrev gS (l : List Nat) : Key := .inr (mkS l)
abbrev gC (c : Nat) : Key := .inr (mkS [c])
theorem sameN (l : List Nat) : sameK (l.map gN) = true := by
  unfold sameK
  rw [Bool.or_eq_true]
  exact .inl (List.all_eq_true.mpr fun x hx => by obtain ⟨n, _, rfl⟩ := List.mem_map.mp hx; rfl)
theorem sameS {α : Type} (f : α → Str) (l : List α) : sameK (l.map fun a => (.inr (f a) : Key)) = true := by
  unfold sameK
  rw [Bool.or_eq_true]
  exact .inr (List.all_eq_true.mpr fun x hx => by obtain ⟨n, _, rfl⟩ := List.mem_map.mp hx; rfl)
theorem ltN (a b : Nat) : ltG gN a b = decide (a < b) := by
  show decide ((a : Int) < (b : Int)) = _
  rw [Bool.eq_iff_iff, decide_eq_true_eq, decide_eq_true_eq]; omega
/-- sorted(set(numbers)) -/
theorem fSortSet_nats {l : List Nat} (hl : l.length < 4000) : fSortSet (.list (l.map dN)) = some (.li ((isort (ltG gN) (onceB l)).map dN)) :=
  fSortSet_map dN gN (fun _ => rfl) (fun _ => rfl) (fun a b h => by have := Sum.inl.inj h; omega) (sameN l) hl
theorem fSort_nats (l : List Nat) : fSort (.list (l.map dN)) = some (.li ((isort (ltG gN) l).map dN)) :=
  fSort_map dN gN (fun _ => rfl) (fun _ => rfl) (sameN l)
/-- .. where it is known what comes out -/
theorem isort_nats {l r : List Nat} (p : r.Perm l) (h : r.Pairwise (· ≤ ·)) : isort (ltG gN) l = r := by
  refine (isort_eq (swo_map gN ltK_swo) (fun a b h1 h2 => ?_) p (h.imp fun {a b} q => ?_)).symm
  · have h1 : ltG gN a b = false := h1
    have h2 : ltG gN b a = false := h2
    rw [ltN] at h1 h2
    have := of_decide_eq_false h1
    have := of_decide_eq_false h2
    omega
  · show ltG gN b a = false
    rw [ltN]; exact decide_eq_false (by omega)
/-- sorted(set(letters)) of a text -/
theorem fSortSet_text {l : List Nat} (hl : l.length < 4000) : fSortSet (tx l) = some (.li ((isort (ltG gC) (onceB l)).map fun c => tx [c])) := by
  show srtS (l.map gC) = _
  unfold srtS
  rw [if_pos ⟨by rw [List.length_map]; exact hl, sameS (fun c => mkS [c]) l⟩, onceK_map gC (fun a b h => by have := mkS_inj (Sum.inr.inj h); simpa using this), isort_map, List.map_map]
  rfl
end Pv

/-! sorted(xs), xs tuples of ints and texts of one shape. -/
namespace Pv
open PySem PySem.Spec PyProof.Rows L2
/-- tuples of keys, by their first parts, then by the next -/
def ltKL : List Key → List Key → Bool
  | [], [] => false
  | [], _ :: _ => true
  | _ :: _, [] => false
  | a :: as, b :: bs => if a = b then ltKL as bs else ltK a b
theorem ltKL_asym : ∀ a b : List Key, ltKL a b = true → ltKL b a = false
  | [], [], h => by cases h
  | [], _ :: _, _ => rfl
  | _ :: _, [], h => by cases h
  | a :: as, b :: bs, h => by
    unfold ltKL at h ⊢
    by_cases e : a = b
    · rw [if_pos e] at h; rw [if_pos e.symm]; exact ltKL_asym as bs h
    · rw [if_neg e] at h; rw [if_neg (Ne.symm e)]; exact ltK_swo.asym _ _ h
theorem ltKL_tr : ∀ a b c : List Key, ltKL b a = false → ltKL c b = false → ltKL c a = false
  | [], [], _, _, h2 => h2
  | [], _ :: _, [], _, _ => rfl
  | [], _ :: _, _ :: _, _, _ => rfl
  | _ :: _, [], _, h1, _ => by cases h1
  | _ :: _, _ :: _, [], _, h2 => by cases h2
  | a :: as, b :: bs, c :: cs, h1, h2 => by
    unfold ltKL at h1 h2 ⊢
    by_cases e1 : b = a
    · subst e1
      rw [if_pos rfl] at h1
      by_cases e2 : c = b
      · subst e2
        rw [if_pos rfl] at h2 ⊢
        exact ltKL_tr as bs cs h1 h2
      · rw [if_neg e2] at h2 ⊢; exact h2
    · rw [if_neg e1] at h1
      by_cases e2 : c = b
      · subst e2
        rw [if_neg e1]; exact h1
      · rw [if_neg e2] at h2
        by_cases e3 : c = a
        · subst e3
          exact absurd (ltK_lin _ _ h2 h1) e2
        · rw [if_neg e3]; exact ltK_swo.tr _ _ _ h1 h2
theorem ltKL_swo : SrtO.Swo ltKL := ⟨ltKL_asym, ltKL_tr⟩
theorem ltKL_lin : ∀ a b : List Key, ltKL a b = false → ltKL b a = false → a = b
  | [], [], _, _ => rfl
  | [], _ :: _, h, _ => by cases h
  | _ :: _, [], _, h => by cases h
  | a :: as, b :: bs, h1, h2 => by
    unfold ltKL at h1 h2
    by_cases e : a = b
    · subst e
      rw [if_pos rfl] at h1 h2
      rw [ltKL_lin as bs h1 h2]
    · rw [if_neg e] at h1
      rw [if_neg (Ne.symm e)] at h2
      exact absurd (ltK_lin _ _ h1 h2) e
section
variable {P : Program} {w : World} {A : Around} {s : Shared}
theorem oneLt_ints (c : Bool) {p q : Int} {t u : Tok} {Q : Bool → Shared → Prop} {E : Value → Shared → Prop} (h : Q (decide (p < q)) s) : wpAny (model P w) A (oneLt' c (.int p t) (.int q u)) Q E s := by
  cases c with
  | true => exact oneLt_int h
  | false => exact PySem.W.kat_one _ _ (PyProof.Rows.lt_int (Q := PySem.W.BoolBack Q) h)
theorem oneLt_strs (c : Bool) {p q : Str} {t u : Tok} {Q : Bool → Shared → Prop} {E : Value → Shared → Prop} (h : Q (decide (p.cps.toList < q.cps.toList)) s) : wpAny (model P w) A (oneLt' c (.str p t) (.str q u)) Q E s := by
  cases c with
  | true => exact oneLt_str h
  | false => exact PySem.W.kat_one _ _ (PyProof.Rows.lt_str (Q := PySem.W.BoolBack Q) h)
theorem lex_keys {b : Bool} {Q : Bool → Shared → Prop} : ∀ (us ws : List Value) (i : Nat), (∀ v ∈ us, keyIs (keyV v) v = true) → (∀ v ∈ ws, keyIs (keyV v) v = true) → us.map (fun v => (keyV v).isLeft) = ws.map (fun v => (keyV v).isLeft) →
    Q (ltKL (us.map keyV) (ws.map keyV)) s → PySem.W.KatLex P w A b false Q (us.zip ws) i s
  | [], [], _, _, _, _, h => h
  | [], _ :: _, _, _, _, e, _ => by cases e
  | _ :: _, [], _, _, _, e, _ => by cases e
  | u :: us, v :: vs, i, hu, hv, e, h => by
    rw [List.map_cons, List.map_cons] at e
    obtain ⟨e1, e2⟩ := List.cons.inj e
    have ku := hu u List.mem_cons_self
    have kv := hv v List.mem_cons_self
    have go := lex_keys (b := b) (Q := Q) us vs (i + 1) (fun x hx => hu x (List.mem_cons_of_mem _ hx)) (fun x hx => hv x (List.mem_cons_of_mem _ hx)) e2
    rw [List.zip_cons_cons]
    rw [List.map_cons, List.map_cons] at h
    unfold ltKL at h
    rcases keyIs_shape ku with ⟨x, t, ek, rfl⟩ | ⟨x, t, ek, rfl⟩
    · rcases keyIs_shape kv with ⟨y, t2, ek2, rfl⟩ | ⟨y, t2, ek2, rfl⟩
      · have h : Q (if (Sum.inl x : Key) = Sum.inl y then ltKL (us.map keyV) (vs.map keyV) else decide (x < y)) s := h
        refine PySem.W.kat_cons (SeqAt.EqAt.int_int x t y t2 P w _ _ ?_)
        refine PySem.W.kat_go (fun q => ?_) (fun q => ?_)
        · have ex : x = y := by simpa using q
          rw [if_pos (congrArg Sum.inl ex)] at h
          exact PySem.W.kat_yes (go h)
        · have ex : ¬ x = y := by simpa using q
          rw [if_neg (fun z => ex (Sum.inl.inj z))] at h
          exact PySem.W.kat_no (oneLt_ints _ h)
      · rw [ek, ek2] at e1; cases e1
    · rcases keyIs_shape kv with ⟨y, t2, ek2, rfl⟩ | ⟨y, t2, ek2, rfl⟩
      · rw [ek, ek2] at e1; cases e1
      · have h : Q (if (Sum.inr x : Key) = Sum.inr y then ltKL (us.map keyV) (vs.map keyV) else decide (x.cps.toList < y.cps.toList)) s := h
        refine PySem.W.kat_cons (SeqAt.EqAt.str_str x t y t2 P w _ _ ?_)
        refine PySem.W.kat_go (fun q => ?_) (fun q => ?_)
        · have ex : x = y := by simpa using q
          rw [if_pos (congrArg Sum.inr ex)] at h
          exact PySem.W.kat_yes (go h)
        · have ex : ¬ x = y := by simpa using q
          rw [if_neg (fun z => ex (Sum.inr.inj z))] at h
          exact PySem.W.kat_no (oneLt_strs _ h)
/-- v is a tuple of the keys ks -/
def IsKT (h : Heap) (v : Value) (ks : List Key) : Prop := ∃ a us, v = .ref a ∧ PyProof.Rows.IsTup h a us ∧ us.toList.map keyV = ks ∧ ∀ u ∈ us.toList, keyIs (keyV u) u = true
theorem IsKT.keeps {h h' : Heap} {v : Value} {ks : List Key} (p : IsKT h v ks) (k : ∀ b o, h.get? b = some o → o.cls = .type "tuple" → h'.get? b = some o) : IsKT h' v ks := by
  obtain ⟨a, us, e, ⟨o, ho, hc, hd⟩, q⟩ := p
  exact ⟨a, us, e, ⟨o, k a o ho hc, hc, hd⟩, q⟩
/-- all of one shape, and not empty -/
def shK (ks : List Key) : List Bool := ks.map fun k => k.isLeft
theorem tup_cmp {vs : List Value} {k : Value → List Key} {sh : List Bool} {b : Bool} (hp : ∀ v ∈ vs, IsKT s.heap v (k v)) (hs : ∀ v ∈ vs, shK (k v) = sh) : SrtO.Cmp P w A s (tuples' b) (fun p => p.1 ∈ vs) (SrtO.lt2 fun v u => ltKL (k v) (k u)) := by
  intro p q hm hm'
  obtain ⟨a, us, e, ⟨o, ho, hc, n, hd⟩, e1, hk1⟩ := hp _ hm
  obtain ⟨a', us', e', ⟨o', ho', hc', n', hd'⟩, e1', hk1'⟩ := hp _ hm'
  have h1 := hs _ hm
  have h2 := hs _ hm'
  show wpAny (model P w) A (keyLt' (tuples' b) p.1 q.1) (fun r s' => s' = s ∧ r = ltKL (k p.1) (k q.1)) (fun _ _ => False) s
  rw [← e1, ← e1']
  rw [← e1] at h1
  rw [← e1'] at h2
  rw [e, e']
  refine PySem.W.kat_lt ho hd ho' hd' ?_
  unfold shK at h1 h2
  rw [List.map_map] at h1 h2
  have hl : us.size = us'.size := by
    have := congrArg List.length (h1.trans h2.symm)
    rw [List.length_map, List.length_map, Array.length_toList, Array.length_toList] at this
    exact this
  rw [decide_eq_false (by omega)]
  exact lex_keys us.toList us'.toList 0 hk1 hk1' (h1.trans h2.symm) ⟨rfl, rfl⟩
theorem firsts_keys {h : Heap} {k : Value → List Key} {x : Bool} {sh : List Bool} : ∀ {vs : List Value}, (∀ v ∈ vs, IsKT h v (k v)) → (∀ v ∈ vs, shK (k v) = x :: sh) → ∃ fs : List Value, PySem.W.KatTups h vs fs ∧ fs.length = vs.length ∧ ∀ f ∈ fs, keyIs (keyV f) f = true ∧ (keyV f).isLeft = x
  | [], _, _ => ⟨[], PySem.W.KatTups.nil, rfl, fun _ hm => by simp at hm⟩
  | v :: vs, hp, hs => by
    obtain ⟨fs, h1, h2, h3⟩ := firsts_keys (vs := vs) (fun v' hm => hp v' (List.mem_cons_of_mem _ hm)) fun v' hm => hs v' (List.mem_cons_of_mem _ hm)
    obtain ⟨a, us, e, ⟨o, ho, hc, n, hd⟩, e1, hk1⟩ := hp v List.mem_cons_self
    have hs1 := hs v List.mem_cons_self
    rw [← e1] at hs1
    unfold shK at hs1
    rw [List.map_map] at hs1
    subst e
    cases q : us.toList with
    | nil => rw [q] at hs1; cases hs1
    | cons f r =>
      rw [q] at hs1 hk1
      have hf : us[0]? = some f := by rw [← Array.getElem?_toList, q]; rfl
      refine ⟨f :: fs, PySem.W.KatTups.cons ho hc hd hf h1, by rw [List.length_cons, List.length_cons, h2], fun g hm => ?_⟩
      rcases List.mem_cons.mp hm with rfl | hm
      · exact ⟨hk1 _ List.mem_cons_self, (List.cons.inj hs1).1⟩
      · exact h3 g hm
theorem tups_sortable {a : Addr} {vs : List Value} {k : Value → List Key} {x : Bool} {sh : List Bool} (h0 : 0 < vs.length) (hp : ∀ v ∈ vs, IsKT s.heap v (k v)) (hs : ∀ v ∈ vs, shK (k v) = x :: sh) (ha : ∀ o, s.heap.get? a = some o → o.cls ≠ .type "tuple") :
    SrtO.SortableO P w A s a vs fun v u => ltKL (k v) (k u) := by
  intro h' keep
  have hp' : ∀ v ∈ vs, IsKT h' v (k v) := fun v hm => (hp v hm).keeps fun b o e c => keep b o (fun z => by subst z; exact ha o e c) e
  obtain ⟨fs, h1, h2, h3⟩ := firsts_keys hp' hs
  cases x with
  | true =>
    refine ⟨tuples' true, fun Q E hq => ?_, tup_cmp hp' hs⟩
    refine PySem.W.kat_kind (T := .type "int") h1 (by omega) (fun f hm => ?_) (by rfl) ?_
    · obtain ⟨q1, q2⟩ := h3 f hm
      rcases keyIs_shape q1 with ⟨y, t2, ek2, rfl⟩ | ⟨y, t2, ek2, rfl⟩
      · exact PySem.W.Looks.now
      · rw [ek2] at q2; cases q2
    · have e : (Value.type "int" != Value.type "tuple") = true := by first | decide +kernel | rfl | decide
      rw [e]
      exact hq
  | false =>
    refine ⟨tuples' true, fun Q E hq => ?_, tup_cmp hp' hs⟩
    refine PySem.W.kat_kind (T := .type "str") h1 (by omega) (fun f hm => ?_) (by rfl) ?_
    · obtain ⟨q1, q2⟩ := h3 f hm
      rcases keyIs_shape q1 with ⟨y, t2, ek2, rfl⟩ | ⟨y, t2, ek2, rfl⟩
      · rw [ek2] at q2; cases q2
      · exact PySem.W.Looks.now
    · have e : (Value.type "str" != Value.type "tuple") = true := by first | decide +kernel | rfl | decide
      rw [e]
      exact hq
end
/-! the rule -/
section
variable {X : Cx}
def rSortKT (K : PySem.W.Frag) : List V → Hp → VK → Prop := fun vs H Q => ∃ (a : Addr) (xs : List V) (k : V → List Key) (x : Bool) (sh : List Bool), vs = [V.ref a] ∧ SqL K H a xs ∧ (∀ y ∈ xs, ∃ t, y = V.ref t ∧ H t = some (.tup ((k y).map kV)) ∧ shK (k y) = x :: sh) ∧
  ∀ ys p, SrtO.Srtd (fun u v => ltKL (k u) (k v)) ys → ys.Perm xs → H p = none → Q (.ref p) (upd H p (.lst ys))
theorem cr_sortKT : CallR X (.builtin "sorted") (rSortKT X.K) := by
  intro pins s σ H vs us Q I r h
  obtain ⟨a, xs, k, x, sh, rfl, hs, hx, q⟩ := h
  obtain ⟨its, rv, hl, hz⟩ := I.list hs
  obtain ⟨u, rfl, ru⟩ := vals1 r
  obtain rfl : u = Value.ref a := ru
  obtain ⟨e1, e2⟩ := refs_back rv fun x m => by
    obtain ⟨t, e, _⟩ := hx x m
    exact ⟨t, e⟩
  have hits : its.length ≤ sizeLine := by rw [← rv.length]; exact hz
  have hk : ∀ v ∈ its, IsKT s.heap v (k (backV v)) ∧ shK (k (backV v)) = x :: sh := fun v hv => by
    obtain ⟨t, rfl⟩ := e2 v hv
    have hm : V.ref t ∈ xs := by rw [e1]; exact List.mem_map.mpr ⟨_, hv, rfl⟩
    obtain ⟨t', e, ht, hsh⟩ := hx _ hm
    cases e
    obtain ⟨_, its2, r2, ht2⟩ := I.hok _ _ ht
    obtain ⟨z1, z2⟩ := vals_keys r2
    exact ⟨⟨t, its2.toArray, rfl, ht2, z1, z2⟩, hsh⟩
  refine SrtO.sorted_ord (ltv := fun v u => ltKL (k (backV v)) (k (backV u))) (swo_map (fun v => k (backV v)) ltKL_swo) hl.isList hits (fun h2 h₁ a' ha kk => ?_) fun out h1 h2 => ?_
  · refine tups_sortable (s := { s with heap := h₁ }) (by omega) (fun v hm => (hk v hm).1.keeps fun b o e _ => (kk b o e).2) (fun v hm => (hk v hm).2) fun o e => ?_
    have e' : some o = some (seqObj "list" its.toArray 0) := e.symm.trans ha
    cases e'
    intro c
    exact absurd (Value.type.inj c) (by decide)
  · have h3 : ∀ u ∈ out, ∃ a, u = Value.ref a := fun u hu => e2 u (h2.perm.mem_iff.mp hu)
    obtain ⟨n, hn⟩ := PyProof.Rows.sortedAll_at s.heap its out.toArray
    have hp : (out.map backV).Perm xs := by rw [e1]; exact h2.perm.map backV
    refine ⟨.ref (s.heap.objs.size + 1), upd H (s.heap.objs.size + 1) (.lst (out.map backV)), I.laid (t' := s.toks) (fun _ _ => PyProof.Rows.sortedAll_old) (Nat.le_succ _) ⟨?_, out, n, vals_back h3, hn⟩, rfl, q _ _ (List.pairwise_map.mpr h1) hp (I.hok.fresh (Nat.le_succ _))⟩
    rw [hp.length_eq]
    exact hz
end
/-! .. by mirrors -/
def vK : V → Key
  | .int i => .inl i
  | .str s => .inr s
  | _ => .inl 0
theorem vK_kV (k : Key) : vK (kV k) = k := by cases k <;> rfl
theorem vK_map (ks : List Key) : (ks.map kV).map vK = ks := by
  rw [List.map_map]
  exact (List.map_congr_left fun k _ => vK_kV k).trans (List.map_id ks)
def kOf (F : Hp) : V → List Key
  | .ref t => match F t with
    | some (.tup vs) => vs.map vK
    | _ => []
  | _ => []
def dKL (ks : List Key) : PyData := .tuple (ks.map dK)
/-- tuples of keys -/
def tupsL : List PyData → Option (List (List Key))
  | [] => some []
  | x :: xs => match keysP x, tupsL xs with
    | some k, some ks => some (k :: ks)
    | _, _ => none
/-- all of the first one's shape, which is not empty -/
def sameSh : List (List Key) → Bool
  | [] => true
  | k :: ks => !(shK k).isEmpty && ks.all fun l => decide (shK l = shK k)
def srtP (kss : List (List Key)) : Option Vr := if sameSh kss = true then some (.li ((isort ltKL kss).map dKL)) else none
def fSortP (x : PyData) : Option Vr := match x with
  | .list xs => (tupsL xs).bind srtP
  | _ => none
theorem keysP_rp {F : Hp} {v : V} {x : PyData} {ks : List Key} (e : keysP x = some ks) (r : Rp F v x) : ∃ t, v = .ref t ∧ F t = some (.tup (ks.map kV)) := by
  obtain ⟨p, h1, h2⟩ := keys_of (H := F) (.inl r) e
  exact ⟨p, h1, h2⟩
theorem tupsL_rp {F : Hp} : ∀ {xs : List PyData} {vs : List V} {kss : List (List Key)}, tupsL xs = some kss → RpA F vs xs → vs.map (kOf F) = kss ∧ ∀ v ∈ vs, ∃ t, v = .ref t ∧ F t = some (.tup ((kOf F v).map kV))
  | [], _, kss, e, .nil => by cases e; exact ⟨rfl, fun v h => by cases h⟩
  | x :: xs, _, kss, e, .cons r t => by
    have e' : (match keysP x, tupsL xs with
      | some k, some ks => some (k :: ks)
      | _, _ => none) = some kss := e
    cases e1 : keysP x with
    | none => rw [e1] at e'; cases e'
    | some k =>
      cases e2 : tupsL xs with
      | none => rw [e1, e2] at e'; cases e'
      | some ks2 =>
        rw [e1, e2] at e'
        cases e'
        obtain ⟨p, rfl, hp⟩ := keysP_rp e1 r
        obtain ⟨h1, h2⟩ := tupsL_rp e2 t
        have hk : kOf F (.ref p) = k := by
          show (match F p with
            | some (.tup vs) => vs.map vK
            | _ => []) = k
          rw [hp]
          exact vK_map k
        refine ⟨by rw [List.map_cons, hk, h1], fun v hv => ?_⟩
        rcases List.mem_cons.mp hv with q | hv
        · subst q; exact ⟨p, rfl, by rw [hk]; exact hp⟩
        · exact h2 v hv
theorem rp_keys {F : Hp} {t : Addr} {ks : List Key} (h : F t = some (.tup (ks.map kV))) : Rp F (.ref t) (dKL ks) := .tup h (rpa_of_keys ks)
theorem rpa_tups {F : Hp} : ∀ {ys : List V}, (∀ v ∈ ys, ∃ t, v = .ref t ∧ F t = some (.tup ((kOf F v).map kV))) → RpA F ys ((ys.map (kOf F)).map dKL)
  | [], _ => .nil
  | y :: ys, h => by
    obtain ⟨t, e, ht⟩ := h y List.mem_cons_self
    refine .cons ?_ (rpa_tups fun v hv => h v (List.mem_cons_of_mem _ hv))
    have := rp_keys ht
    rw [e] at this ⊢
    exact this
theorem sameSh_of {kss : List (List Key)} (h : sameSh kss = true) : ∃ x sh, ∀ k ∈ kss, shK k = x :: sh := by
  cases kss with
  | nil => exact ⟨true, [], fun k h => by cases h⟩
  | cons k ks =>
    unfold sameSh at h
    rw [Bool.and_eq_true] at h
    obtain ⟨h1, h2⟩ := h
    cases e : shK k with
    | nil => rw [e] at h1; cases h1
    | cons x sh =>
      refine ⟨x, sh, fun l hl => ?_⟩
      rcases List.mem_cons.mp hl with q | hl
      · rw [q, e]
      · have := of_decide_eq_true (List.all_eq_true.mp h2 l hl)
        rw [this, e]
section
variable {K : PySem.W.Frag}
theorem c_sortP : ∀ u H Q, rF1 fSortP u H Q → rSortKT K [u] H Q := by
  intro u H Q ⟨F, d, r, sm, hx, hf, k⟩
  cases d with
  | list xs =>
    obtain ⟨p, vs, rfl, hp, ra⟩ := hx.list sm
    have hf' : (tupsL xs).bind srtP = some r := hf
    cases e1 : tupsL xs with
    | none => rw [e1] at hf'; cases hf'
    | some kss =>
      rw [e1] at hf'
      have hf2 : (if sameSh kss = true then some (Vr.li ((isort ltKL kss).map dKL)) else none) = some r := hf'
      by_cases c : sameSh kss = true
      · rw [if_pos c] at hf2
        cases hf2
        obtain ⟨h1, h2⟩ := tupsL_rp e1 ra
        obtain ⟨x, sh, hsh⟩ := sameSh_of c
        refine ⟨p, vs, kOf F, x, sh, rfl, SqL.of hp, fun y hy => ?_, fun ys q hs hpm n => k _ q ?_ n⟩
        · obtain ⟨t, e, ht⟩ := h2 y hy
          exact ⟨t, e, sm _ _ ht, hsh _ (by rw [← h1]; exact List.mem_map_of_mem hy)⟩
        · have e : ys.map (kOf F) = isort ltKL kss := by
            rw [← h1]
            exact isort_eq ltKL_swo ltKL_lin (hpm.map _) (List.pairwise_map.mpr hs)
          rw [← e]
          exact rpa_tups fun v hv => h2 v (hpm.mem_iff.mp hv)
      · rw [if_neg c] at hf2; cases hf2
  | none => cases hf
  | bool _ => cases hf
  | int _ => cases hf
  | str _ => cases hf
  | tuple _ => cases hf
  | dict _ => cases hf
theorem cr_sortPD {X : Cx} : CallR X (.builtin "sorted") (rSortKT X.K) := cr_sortKT
end
end Pv

/-! Rankings, in plain lists. -/
namespace Pv
open PySem PySem.Spec PyProof.Rows L2
theorem perm_nodup {α : Type} [DecidableEq α] {l m : List α} (h1 : l.Nodup) (h2 : m.Nodup) (h : ∀ x, x ∈ l ↔ x ∈ m) : l.Perm m := by
  refine List.perm_iff_count.mpr fun a => ?_
  by_cases q : a ∈ l
  · rw [h1.count, h2.count, if_pos q, if_pos ((h a).mp q)]
  · rw [List.count_eq_zero.mpr q, List.count_eq_zero.mpr fun z => q ((h a).mpr z)]
theorem AB_pw : AB.Pairwise (· < ·) := by decide
theorem AB_nodup : AB.Nodup := by decide
theorem ltC (a b : Nat) : ltG gC a b = decide (a < b) := by
  show decide ([a] < [b]) = decide (a < b)
  simp
/-- sorted(set(letters)) -/
theorem isort_letters {o : List Nat} (h : ∀ c ∈ o, c ∈ AB) : isort (ltG gC) (onceB o) = AB.filter fun c => decide (c ∈ o) := by
  refine (isort_eq (swo_map gC ltK_swo) (fun a b h1 h2 => ?_) ?_ ?_).symm
  · have h1 : ltG gC a b = false := h1
    have h2 : ltG gC b a = false := h2
    rw [ltC] at h1 h2
    have := of_decide_eq_false h1
    have := of_decide_eq_false h2
    omega
  · refine perm_nodup (AB_nodup.filter _) (onceB_nodup o) fun x => ?_
    rw [List.mem_filter, mem_onceB, decide_eq_true_eq]
    exact ⟨fun q => q.2, fun q => ⟨h x q, q⟩⟩
  · refine (AB_pw.filter _).imp fun {a b} q => ?_
    show ltG gC b a = false
    rw [ltC]; exact decide_eq_false (by omega)
def teamsAt (o : List Nat) (c n : Nat) : List Nat := AB.filter fun t => decide (scoreN o t c = some n)
/-- scores and teams, in the order of the teams -/
def scs (o : List Nat) (c : Nat) : List (Nat × Nat) := AB.filterMap fun t => (scoreN o t c).map fun n => (n, t)
def rkT (o : List Nat) (c : Nat) : List Nat := isort (ltG gN) (onceB ((scs o c).map (·.1)))
def rk (o : List Nat) (c : Nat) : List (Nat × List Nat) := (rkT o c).map fun n => (n, teamsAt o c n)
abbrev prD (p : Nat × List Nat) : PyData := .tuple [.int (p.1 : Nat), tx p.2]
theorem scs_at (o : List Nat) (c n : Nat) : ((scs o c).filter fun p => decide (p.1 = n)).map (·.2) = teamsAt o c n := by
  unfold scs teamsAt
  induction AB with
  | nil => rfl
  | cons t l ih =>
    rw [List.filterMap_cons]
    cases e : scoreN o t c with
    | none =>
      rw [List.filter_cons_of_neg (by rw [e]; simp)]
      exact ih
    | some m =>
      show ((((m, t) :: _).filter _).map _) = _
      by_cases q : m = n
      · rw [List.filter_cons_of_pos (by simpa using q), List.filter_cons_of_pos (by simpa [e] using q), List.map_cons, ih]
      · rw [List.filter_cons_of_neg (by simpa using q), List.filter_cons_of_neg (by simpa [e] using q), ih]
theorem mem_scs {o : List Nat} {c : Nat} {p : Nat × Nat} : p ∈ scs o c ↔ p.2 ∈ AB ∧ scoreN o p.2 c = some p.1 := by
  unfold scs
  rw [List.mem_filterMap]
  refine ⟨fun ⟨t, ht, e⟩ => ?_, fun ⟨h1, h2⟩ => ⟨p.2, h1, by rw [h2]; rfl⟩⟩
  cases q : scoreN o t c with
  | none => rw [q] at e; cases e
  | some m =>
    rw [q] at e
    have e : (m, t) = p := Option.some.inj e
    subst e
    exact ⟨ht, q⟩
theorem scs_len (o : List Nat) (c : Nat) : (scs o c).length ≤ 6 := Nat.le_trans (List.length_filterMap_le ..) (by decide)
theorem mem_rkT {o : List Nat} {c n : Nat} : n ∈ rkT o c ↔ ∃ t ∈ AB, scoreN o t c = some n := by
  unfold rkT
  rw [(isort_perm _).mem_iff, mem_onceB, List.mem_map]
  refine ⟨fun ⟨p, hp, e⟩ => ?_, fun ⟨t, h1, h2⟩ => ⟨(n, t), mem_scs.mpr ⟨h1, h2⟩, rfl⟩⟩
  obtain ⟨h1, h2⟩ := mem_scs.mp hp
  exact ⟨p.2, h1, by rw [h2, e]⟩
theorem isort_nats_pw {l : List Nat} (h : l.Nodup) : (isort (ltG gN) l).Pairwise (· < ·) := by
  have h1 := isort_srtd (swo_map gN ltK_swo) l
  have h2 : (isort (ltG gN) l).Nodup := (isort_perm l).nodup_iff.mpr h
  have h3 : (isort (ltG gN) l).Pairwise (fun a b => ltG gN b a = false ∧ a ≠ b) := List.pairwise_and_iff.mpr ⟨h1, h2⟩
  refine h3.imp fun {a b} q => ?_
  obtain ⟨q, q2⟩ := q
  rw [ltN] at q
  have := of_decide_eq_false q
  omega
theorem rkT_pw (o : List Nat) (c : Nat) : (rkT o c).Pairwise (· < ·) := isort_nats_pw (onceB_nodup _)
theorem rkT_len (o : List Nat) (c : Nat) : (rkT o c).length ≤ 6 := by
  unfold rkT
  rw [(isort_perm _).length_eq]
  have : (onceB ((scs o c).map (·.1))).length ≤ ((scs o c).map (·.1)).length := (onceB_nodup _).length_le_of_subset fun x hx => mem_onceB.mp hx
  have h2 := scs_len o c
  rw [List.length_map] at this
  omega
theorem rk_pw (o : List Nat) (c : Nat) : (rk o c).Pairwise fun p q => p.1 < q.1 := List.pairwise_map.mpr (rkT_pw o c)
theorem rk_len (o : List Nat) (c : Nat) : (rk o c).length ≤ 6 := by unfold rk; rw [List.length_map]; exact rkT_len o c
theorem mem_rk {o : List Nat} {c : Nat} {p : Nat × List Nat} : p ∈ rk o c ↔ p.2 ≠ [] ∧ p.2 = teamsAt o c p.1 := by
  unfold rk
  rw [List.mem_map]
  have ne : ∀ n, n ∈ rkT o c ↔ teamsAt o c n ≠ [] := fun n => by
    rw [mem_rkT]
    unfold teamsAt
    rw [ne_eq, List.filter_eq_nil_iff]
    refine ⟨fun ⟨t, h1, h2⟩ q => q t h1 (by simpa using h2), fun q => ?_⟩
    refine Classical.byContradiction fun z => q fun t ht hq => z ⟨t, ht, by simpa using hq⟩
  refine ⟨fun ⟨n, hn, e⟩ => ?_, fun ⟨h1, h2⟩ => ⟨p.1, (ne _).mpr (by rw [← h2]; exact h1), by rw [← h2]⟩⟩
  subst e
  exact ⟨(ne n).mp hn, rfl⟩
theorem rk_nodup (o : List Nat) (c : Nat) : (rk o c).Nodup := (rk_pw o c).imp fun {a b} q e => by subst e; omega
/-! sorted(pairs) -/
theorem tupsL_pairs : ∀ l : List (Nat × List Nat), tupsL (l.map prD) = some (l.map fun p => [gN p.1, gS p.2])
  | [] => rfl
  | p :: l => by
    show (match keysP (prD p), tupsL (l.map prD) with
      | some k, some ks => some (k :: ks)
      | _, _ => none) = _
    rw [tupsL_pairs l]; rfl
theorem sameSh_map {α : Type} (f : α → List Key) {x : Bool} {sh : List Bool} (h : ∀ a, shK (f a) = x :: sh) : ∀ l : List α, sameSh (l.map f) = true
  | [] => rfl
  | a :: l => by
    show (!(shK (f a)).isEmpty && (l.map f).all fun m => decide (shK m = shK (f a))) = true
    rw [h a, Bool.and_eq_true]
    refine ⟨rfl, List.all_eq_true.mpr fun m hm => ?_⟩
    obtain ⟨b, _, rfl⟩ := List.mem_map.mp hm
    rw [h b]; exact decide_eq_true rfl
theorem fSortP_pairs {l r : List (Nat × List Nat)} (p : r.Perm l) (h : r.Pairwise fun p q => p.1 < q.1) : fSortP (.list (l.map prD)) = some (.li (r.map prD)) := by
  show (tupsL (l.map prD)).bind srtP = _
  rw [tupsL_pairs]
  show srtP (l.map fun p => [gN p.1, gS p.2]) = _
  unfold srtP
  rw [if_pos (sameSh_map (x := true) (sh := [false]) _ (fun _ => rfl) l)]
  have e : r.map (fun p => [gN p.1, gS p.2]) = isort ltKL (l.map fun p => [gN p.1, gS p.2]) := by
    refine isort_eq ltKL_swo ltKL_lin (p.map _) (List.pairwise_map.mpr (h.imp fun {a b} q => ?_))
    show (if gN b.1 = gN a.1 then _ else ltK (gN b.1) (gN a.1)) = false
    rw [if_neg (fun z => by have := Sum.inl.inj z; omega)]
    show decide ((b.1 : Int) < (a.1 : Int)) = false
    exact decide_eq_false (by omega)
  rw [← e, List.map_map]
  rfl
theorem ShD.mono {k m : Nat} {d : PyData} (h : ShD k d) (hm : k ≤ m) : ShD m d := ⟨h.1, Nat.le_trans h.2 hm⟩
theorem ShD.str {k : Nat} {l : List Nat} (h : ∀ c ∈ l, c < 1000) : ShD k (tx l) := ⟨(by
    show (mkS l).cps.all _ = true
    rw [← Array.all_toList]
    refine List.all_eq_true.mpr fun c hc => ?_
    have := h c (by simpa [mkS] using hc)
    simp; omega), Nat.zero_le _⟩
theorem ShD.prs {l : List (Nat × List Nat)} (h : ∀ p ∈ l, ∀ c ∈ p.2, c < 1000) : ShD 2 (.list (l.map prD)) := ShD.list fun x hx => by
  obtain ⟨p, hp, rfl⟩ := List.mem_map.mp hx
  refine ShD.tuple fun y hy => ?_
  rcases List.mem_cons.mp hy with e | hy
  · subst e; exact ShD.int _
  · rw [List.mem_singleton.mp hy]; exact ShD.str (h p hp)
theorem rk_small {o : List Nat} {c : Nat} : ∀ p ∈ rk o c, ∀ x ∈ p.2, x < 1000 := fun p hp x hx => by
  have h := (mem_rk.mp hp).2
  rw [h] at hx
  have h2 := (List.mem_filter.mp hx).1
  simp at h2
  omega
/-! the law's own way to them -/
/-- what stands in found behind the teams pre -/
structure Rks (o : List Nat) (c : Nat) (pre : List Nat) (l : List (Nat × List Nat)) : Prop where
  nd : (l.map (·.1)).Nodup
  mem : ∀ p, p ∈ l ↔ p.2 ≠ [] ∧ p.2 = pre.filter fun t => decide (scoreN o t c = some p.1)
  ln : l.length ≤ pre.length
theorem Rks.nil (o : List Nat) (c : Nat) : Rks o c [] [] := ⟨List.Pairwise.nil, fun p => ⟨fun h => (by cases h), fun h => absurd h.2 h.1⟩, Nat.le_refl _⟩
theorem Rks.skip {o : List Nat} {c t : Nat} {pre : List Nat} {l : List (Nat × List Nat)} (h : Rks o c pre l) (e : scoreN o t c = none) : Rks o c (pre ++ [t]) l := by
  refine ⟨h.nd, fun p => ?_, by rw [List.length_append]; exact Nat.le_trans h.ln (Nat.le_add_right _ _)⟩
  rw [h.mem, List.filter_append, List.filter_cons_of_neg (by rw [e]; simp), List.filter_nil, List.append_nil]
theorem Rks.put {o : List Nat} {c t n : Nat} {pre : List Nat} {l : List (Nat × List Nat)} (h : Rks o c pre l) (e : scoreN o t c = some n) :
    Rks o c (pre ++ [t]) ((l.filter fun p => !decide (p.1 = n)) ++ [(n, (((l.filter fun p => decide (p.1 = n)).map (·.2)).flatten) ++ [t])]) := by
  have same : ((l.filter fun p => decide (p.1 = n)).map (·.2)).flatten = pre.filter fun t => decide (scoreN o t c = some n) := by
    by_cases q : ∃ p ∈ l, p.1 = n
    · obtain ⟨p, hp, hpn⟩ := q
      have e1 : l.filter (fun p => decide (p.1 = n)) = [p] := by
        have hnd := h.nd
        clear h
        induction l with
        | nil => cases hp
        | cons a l ih =>
          rw [List.map_cons, List.nodup_cons] at hnd
          rcases List.mem_cons.mp hp with rfl | hp
          · rw [List.filter_cons_of_pos (by simpa using hpn), List.filter_eq_nil_iff.mpr fun b hb hq => hnd.1 (by rw [hpn]; exact List.mem_map.mpr ⟨b, hb, by simpa using hq⟩)]
          · rw [List.filter_cons_of_neg (fun hq => hnd.1 (List.mem_map.mpr ⟨p, hp, by rw [hpn]; simpa using (of_decide_eq_true hq).symm⟩))]
            exact ih hp hnd.2
      rw [e1]
      have := ((h.mem p).mp hp).2
      rw [hpn] at this
      simp [this]
    · have e1 : l.filter (fun p => decide (p.1 = n)) = [] := List.filter_eq_nil_iff.mpr fun p hp hq => q ⟨p, hp, by simpa using hq⟩
      rw [e1]
      have e2 : (pre.filter fun t => decide (scoreN o t c = some n)) = [] := Classical.byContradiction fun z => q ⟨(n, _), (h.mem _).mpr ⟨z, rfl⟩, rfl⟩
      rw [e2]; rfl
  rw [same]
  refine ⟨?_, fun p => ?_, by
    rw [List.length_append, List.length_append]
    exact Nat.add_le_add (Nat.le_trans (List.length_filter_le ..) h.ln) (Nat.le_refl _)⟩
  · rw [List.map_append, List.nodup_append]
    refine ⟨h.nd.sublist ((List.filter_sublist).map _), by simp, fun a ha b hb => ?_⟩
    obtain ⟨p, hp, rfl⟩ := List.mem_map.mp ha
    have := (List.mem_filter.mp hp).2
    rw [List.map_singleton, List.mem_singleton] at hb
    subst hb
    simpa using this
  · rw [List.mem_append, List.mem_filter, List.mem_singleton, h.mem, List.filter_append]
    by_cases q : p.1 = n
    · have e2 : ([t].filter fun t => decide (scoreN o t c = some p.1)) = [t] := List.filter_cons_of_pos (by rw [e, q]; simp)
      rw [e2, q]
      refine ⟨fun z => ?_, fun z => .inr ?_⟩
      · rcases z with z | z
        · simp at z
        · rw [z]; simp
      · obtain ⟨a, b⟩ := p
        have q : a = n := q
        have z : b ≠ [] ∧ b = _ := z
        rw [q, z.2]
    · have e2 : ([t].filter fun t => decide (scoreN o t c = some p.1)) = [] := List.filter_cons_of_neg (by rw [e]; simpa using fun z => q z.symm)
      rw [e2, List.append_nil]
      refine ⟨fun z => ?_, fun z => .inl ⟨z, by simpa using q⟩⟩
      rcases z with z | z
      · exact z.1
      · exact absurd (by rw [z]) q
theorem Rks.fin {o : List Nat} {c : Nat} {l : List (Nat × List Nat)} (h : Rks o c AB l) : (rk o c).Perm l := by
  have hn : l.Nodup := by
    have := h.nd
    exact (List.pairwise_map.mp this).imp fun {a b} q e => q (by rw [e])
  exact perm_nodup (rk_nodup o c) hn fun p => by rw [mem_rk, h.mem]; rfl
end Pv

/-! States of which little is known; comprehensions whose tests change the state. -/
namespace Pv
open PySem PySem.Spec PyProof.Rows L2
/-- n slots of which nothing is known, but that no parameter stands there by reference -/
def Un (n : Nat) (t : List Sl) : Prop := t.length = n ∧ ∀ s ∈ t, nrS s = true
theorem Un.uncons {n : Nat} {t : List Sl} (h : Un (n + 1) t) : ∃ s r, t = s :: r ∧ nrS s = true ∧ Un n r := by
  match t, h with
  | s :: r, ⟨h1, h2⟩ => exact ⟨s, r, rfl, h2 s List.mem_cons_self, Nat.succ.inj h1, fun x hx => h2 x (List.mem_cons_of_mem _ hx)⟩
theorem Un.nil0 {t : List Sl} (h : Un 0 t) : t = [] := List.eq_nil_of_length_eq_zero h.1
theorem Un.rep (n : Nat) : Un n (List.replicate n Sl.no) := ⟨List.length_replicate, fun s hs => by rw [List.eq_of_mem_replicate hs]; rfl⟩
theorem Un.nil : Un 0 [] := ⟨rfl, fun s h => by cases h⟩
theorem Un.cons {n : Nat} {s : Sl} {t : List Sl} (h : nrS s = true) (u : Un n t) : Un (n + 1) (s :: t) := ⟨by rw [List.length_cons, u.1], fun x hx => by
  rcases List.mem_cons.mp hx with e | hx
  · rw [e]; exact h
  · exact u.2 x hx⟩
theorem Un.u1 {t : List Sl} (h : Un 1 t) : ∃ x1, t = [x1] ∧ nrS x1 = true := by
  obtain ⟨x1, r1, e1, n1, h1⟩ := h.uncons
  exact ⟨x1, by rw [e1, h1.nil0], n1⟩
theorem Un.m1 {x1 : Sl} (h : nrS x1 = true) : Un 1 [x1] := ⟨rfl, fun s hs => by
  simp only [List.mem_cons, List.not_mem_nil, or_false] at hs
  rcases hs with rfl <;> simp [h]⟩
theorem Un.u2 {t : List Sl} (h : Un 2 t) : ∃ x1 x2, t = [x1, x2] ∧ nrS x1 = true ∧ nrS x2 = true := by
  obtain ⟨x1, r1, e1, n1, h1⟩ := h.uncons
  obtain ⟨x2, r2, e2, n2, h2⟩ := h1.uncons
  exact ⟨x1, x2, by rw [e1, e2, h2.nil0], n1, n2⟩
theorem Un.m2 {x1 x2 : Sl} (h : nrS x1 = true ∧ nrS x2 = true) : Un 2 [x1, x2] := ⟨rfl, fun s hs => by
  simp only [List.mem_cons, List.not_mem_nil, or_false] at hs
  rcases hs with rfl | rfl <;> simp [h]⟩
theorem Un.u3 {t : List Sl} (h : Un 3 t) : ∃ x1 x2 x3, t = [x1, x2, x3] ∧ nrS x1 = true ∧ nrS x2 = true ∧ nrS x3 = true := by
  obtain ⟨x1, r1, e1, n1, h1⟩ := h.uncons
  obtain ⟨x2, r2, e2, n2, h2⟩ := h1.uncons
  obtain ⟨x3, r3, e3, n3, h3⟩ := h2.uncons
  exact ⟨x1, x2, x3, by rw [e1, e2, e3, h3.nil0], n1, n2, n3⟩
theorem Un.m3 {x1 x2 x3 : Sl} (h : nrS x1 = true ∧ nrS x2 = true ∧ nrS x3 = true) : Un 3 [x1, x2, x3] := ⟨rfl, fun s hs => by
  simp only [List.mem_cons, List.not_mem_nil, or_false] at hs
  rcases hs with rfl | rfl | rfl <;> simp [h]⟩
theorem Un.u4 {t : List Sl} (h : Un 4 t) : ∃ x1 x2 x3 x4, t = [x1, x2, x3, x4] ∧ nrS x1 = true ∧ nrS x2 = true ∧ nrS x3 = true ∧ nrS x4 = true := by
  obtain ⟨x1, r1, e1, n1, h1⟩ := h.uncons
  obtain ⟨x2, r2, e2, n2, h2⟩ := h1.uncons
  obtain ⟨x3, r3, e3, n3, h3⟩ := h2.uncons
  obtain ⟨x4, r4, e4, n4, h4⟩ := h3.uncons
  exact ⟨x1, x2, x3, x4, by rw [e1, e2, e3, e4, h4.nil0], n1, n2, n3, n4⟩
theorem Un.m4 {x1 x2 x3 x4 : Sl} (h : nrS x1 = true ∧ nrS x2 = true ∧ nrS x3 = true ∧ nrS x4 = true) : Un 4 [x1, x2, x3, x4] := ⟨rfl, fun s hs => by
  simp only [List.mem_cons, List.not_mem_nil, or_false] at hs
  rcases hs with rfl | rfl | rfl | rfl <;> simp [h]⟩
theorem Un.u5 {t : List Sl} (h : Un 5 t) : ∃ x1 x2 x3 x4 x5, t = [x1, x2, x3, x4, x5] ∧ nrS x1 = true ∧ nrS x2 = true ∧ nrS x3 = true ∧ nrS x4 = true ∧ nrS x5 = true := by
  obtain ⟨x1, r1, e1, n1, h1⟩ := h.uncons
  obtain ⟨x2, r2, e2, n2, h2⟩ := h1.uncons
  obtain ⟨x3, r3, e3, n3, h3⟩ := h2.uncons
  obtain ⟨x4, r4, e4, n4, h4⟩ := h3.uncons
  obtain ⟨x5, r5, e5, n5, h5⟩ := h4.uncons
  exact ⟨x1, x2, x3, x4, x5, by rw [e1, e2, e3, e4, e5, h5.nil0], n1, n2, n3, n4, n5⟩
theorem Un.m5 {x1 x2 x3 x4 x5 : Sl} (h : nrS x1 = true ∧ nrS x2 = true ∧ nrS x3 = true ∧ nrS x4 = true ∧ nrS x5 = true) : Un 5 [x1, x2, x3, x4, x5] := ⟨rfl, fun s hs => by
  simp only [List.mem_cons, List.not_mem_nil, or_false] at hs
  rcases hs with rfl | rfl | rfl | rfl | rfl <;> simp [h]⟩
theorem Un.u6 {t : List Sl} (h : Un 6 t) : ∃ x1 x2 x3 x4 x5 x6, t = [x1, x2, x3, x4, x5, x6] ∧ nrS x1 = true ∧ nrS x2 = true ∧ nrS x3 = true ∧ nrS x4 = true ∧ nrS x5 = true ∧ nrS x6 = true := by
  obtain ⟨x1, r1, e1, n1, h1⟩ := h.uncons
  obtain ⟨x2, r2, e2, n2, h2⟩ := h1.uncons
  obtain ⟨x3, r3, e3, n3, h3⟩ := h2.uncons
  obtain ⟨x4, r4, e4, n4, h4⟩ := h3.uncons
  obtain ⟨x5, r5, e5, n5, h5⟩ := h4.uncons
  obtain ⟨x6, r6, e6, n6, h6⟩ := h5.uncons
  exact ⟨x1, x2, x3, x4, x5, x6, by rw [e1, e2, e3, e4, e5, e6, h6.nil0], n1, n2, n3, n4, n5, n6⟩
theorem Un.m6 {x1 x2 x3 x4 x5 x6 : Sl} (h : nrS x1 = true ∧ nrS x2 = true ∧ nrS x3 = true ∧ nrS x4 = true ∧ nrS x5 = true ∧ nrS x6 = true) : Un 6 [x1, x2, x3, x4, x5, x6] := ⟨rfl, fun s hs => by
  simp only [List.mem_cons, List.not_mem_nil, or_false] at hs
  rcases hs with rfl | rfl | rfl | rfl | rfl | rfl <;> simp [h]⟩
theorem Un.u7 {t : List Sl} (h : Un 7 t) : ∃ x1 x2 x3 x4 x5 x6 x7, t = [x1, x2, x3, x4, x5, x6, x7] ∧ nrS x1 = true ∧ nrS x2 = true ∧ nrS x3 = true ∧ nrS x4 = true ∧ nrS x5 = true ∧ nrS x6 = true ∧ nrS x7 = true := by
  obtain ⟨x1, r1, e1, n1, h1⟩ := h.uncons
  obtain ⟨x2, r2, e2, n2, h2⟩ := h1.uncons
  obtain ⟨x3, r3, e3, n3, h3⟩ := h2.uncons
  obtain ⟨x4, r4, e4, n4, h4⟩ := h3.uncons
  obtain ⟨x5, r5, e5, n5, h5⟩ := h4.uncons
  obtain ⟨x6, r6, e6, n6, h6⟩ := h5.uncons
  obtain ⟨x7, r7, e7, n7, h7⟩ := h6.uncons
  exact ⟨x1, x2, x3, x4, x5, x6, x7, by rw [e1, e2, e3, e4, e5, e6, e7, h7.nil0], n1, n2, n3, n4, n5, n6, n7⟩
theorem Un.m7 {x1 x2 x3 x4 x5 x6 x7 : Sl} (h : nrS x1 = true ∧ nrS x2 = true ∧ nrS x3 = true ∧ nrS x4 = true ∧ nrS x5 = true ∧ nrS x6 = true ∧ nrS x7 = true) : Un 7 [x1, x2, x3, x4, x5, x6, x7] := ⟨rfl, fun s hs => by
  simp only [List.mem_cons, List.not_mem_nil, or_false] at hs
  rcases hs with rfl | rfl | rfl | rfl | rfl | rfl | rfl <;> simp [h]⟩
theorem Un.u8 {t : List Sl} (h : Un 8 t) : ∃ x1 x2 x3 x4 x5 x6 x7 x8, t = [x1, x2, x3, x4, x5, x6, x7, x8] ∧ nrS x1 = true ∧ nrS x2 = true ∧ nrS x3 = true ∧ nrS x4 = true ∧ nrS x5 = true ∧ nrS x6 = true ∧ nrS x7 = true ∧ nrS x8 = true := by
  obtain ⟨x1, r1, e1, n1, h1⟩ := h.uncons
  obtain ⟨x2, r2, e2, n2, h2⟩ := h1.uncons
  obtain ⟨x3, r3, e3, n3, h3⟩ := h2.uncons
  obtain ⟨x4, r4, e4, n4, h4⟩ := h3.uncons
  obtain ⟨x5, r5, e5, n5, h5⟩ := h4.uncons
  obtain ⟨x6, r6, e6, n6, h6⟩ := h5.uncons
  obtain ⟨x7, r7, e7, n7, h7⟩ := h6.uncons
  obtain ⟨x8, r8, e8, n8, h8⟩ := h7.uncons
  exact ⟨x1, x2, x3, x4, x5, x6, x7, x8, by rw [e1, e2, e3, e4, e5, e6, e7, e8, h8.nil0], n1, n2, n3, n4, n5, n6, n7, n8⟩
theorem Un.m8 {x1 x2 x3 x4 x5 x6 x7 x8 : Sl} (h : nrS x1 = true ∧ nrS x2 = true ∧ nrS x3 = true ∧ nrS x4 = true ∧ nrS x5 = true ∧ nrS x6 = true ∧ nrS x7 = true ∧ nrS x8 = true) : Un 8 [x1, x2, x3, x4, x5, x6, x7, x8] := ⟨rfl, fun s hs => by
  simp only [List.mem_cons, List.not_mem_nil, or_false] at hs
  rcases hs with rfl | rfl | rfl | rfl | rfl | rfl | rfl | rfl <;> simp [h]⟩
theorem Un.u9 {t : List Sl} (h : Un 9 t) : ∃ x1 x2 x3 x4 x5 x6 x7 x8 x9, t = [x1, x2, x3, x4, x5, x6, x7, x8, x9] ∧ nrS x1 = true ∧ nrS x2 = true ∧ nrS x3 = true ∧ nrS x4 = true ∧ nrS x5 = true ∧ nrS x6 = true ∧ nrS x7 = true ∧ nrS x8 = true ∧ nrS x9 = true := by
  obtain ⟨x1, r1, e1, n1, h1⟩ := h.uncons
  obtain ⟨x2, r2, e2, n2, h2⟩ := h1.uncons
  obtain ⟨x3, r3, e3, n3, h3⟩ := h2.uncons
  obtain ⟨x4, r4, e4, n4, h4⟩ := h3.uncons
  obtain ⟨x5, r5, e5, n5, h5⟩ := h4.uncons
  obtain ⟨x6, r6, e6, n6, h6⟩ := h5.uncons
  obtain ⟨x7, r7, e7, n7, h7⟩ := h6.uncons
  obtain ⟨x8, r8, e8, n8, h8⟩ := h7.uncons
  obtain ⟨x9, r9, e9, n9, h9⟩ := h8.uncons
  exact ⟨x1, x2, x3, x4, x5, x6, x7, x8, x9, by rw [e1, e2, e3, e4, e5, e6, e7, e8, e9, h9.nil0], n1, n2, n3, n4, n5, n6, n7, n8, n9⟩
theorem Un.m9 {x1 x2 x3 x4 x5 x6 x7 x8 x9 : Sl} (h : nrS x1 = true ∧ nrS x2 = true ∧ nrS x3 = true ∧ nrS x4 = true ∧ nrS x5 = true ∧ nrS x6 = true ∧ nrS x7 = true ∧ nrS x8 = true ∧ nrS x9 = true) : Un 9 [x1, x2, x3, x4, x5, x6, x7, x8, x9] := ⟨rfl, fun s hs => by
  simp only [List.mem_cons, List.not_mem_nil, or_false] at hs
  rcases hs with rfl | rfl | rfl | rfl | rfl | rfl | rfl | rfl | rfl <;> simp [h]⟩
theorem Un.u10 {t : List Sl} (h : Un 10 t) : ∃ x1 x2 x3 x4 x5 x6 x7 x8 x9 x10, t = [x1, x2, x3, x4, x5, x6, x7, x8, x9, x10] ∧ nrS x1 = true ∧ nrS x2 = true ∧ nrS x3 = true ∧ nrS x4 = true ∧ nrS x5 = true ∧ nrS x6 = true ∧ nrS x7 = true ∧ nrS x8 = true ∧ nrS x9 = true ∧ nrS x10 = true := by
  obtain ⟨x1, r1, e1, n1, h1⟩ := h.uncons
  obtain ⟨x2, r2, e2, n2, h2⟩ := h1.uncons
  obtain ⟨x3, r3, e3, n3, h3⟩ := h2.uncons
  obtain ⟨x4, r4, e4, n4, h4⟩ := h3.uncons
  obtain ⟨x5, r5, e5, n5, h5⟩ := h4.uncons
  obtain ⟨x6, r6, e6, n6, h6⟩ := h5.uncons
  obtain ⟨x7, r7, e7, n7, h7⟩ := h6.uncons
  obtain ⟨x8, r8, e8, n8, h8⟩ := h7.uncons
  obtain ⟨x9, r9, e9, n9, h9⟩ := h8.uncons
  obtain ⟨x10, r10, e10, n10, h10⟩ := h9.uncons
  exact ⟨x1, x2, x3, x4, x5, x6, x7, x8, x9, x10, by rw [e1, e2, e3, e4, e5, e6, e7, e8, e9, e10, h10.nil0], n1, n2, n3, n4, n5, n6, n7, n8, n9, n10⟩
theorem Un.m10 {x1 x2 x3 x4 x5 x6 x7 x8 x9 x10 : Sl} (h : nrS x1 = true ∧ nrS x2 = true ∧ nrS x3 = true ∧ nrS x4 = true ∧ nrS x5 = true ∧ nrS x6 = true ∧ nrS x7 = true ∧ nrS x8 = true ∧ nrS x9 = true ∧ nrS x10 = true) : Un 10 [x1, x2, x3, x4, x5, x6, x7, x8, x9, x10] := ⟨rfl, fun s hs => by
  simp only [List.mem_cons, List.not_mem_nil, or_false] at hs
  rcases hs with rfl | rfl | rfl | rfl | rfl | rfl | rfl | rfl | rfl | rfl <;> simp [h]⟩
theorem Un.u11 {t : List Sl} (h : Un 11 t) : ∃ x1 x2 x3 x4 x5 x6 x7 x8 x9 x10 x11, t = [x1, x2, x3, x4, x5, x6, x7, x8, x9, x10, x11] ∧ nrS x1 = true ∧ nrS x2 = true ∧ nrS x3 = true ∧ nrS x4 = true ∧ nrS x5 = true ∧ nrS x6 = true ∧ nrS x7 = true ∧ nrS x8 = true ∧ nrS x9 = true ∧ nrS x10 = true ∧ nrS x11 = true := by
  obtain ⟨x1, r1, e1, n1, h1⟩ := h.uncons
  obtain ⟨x2, r2, e2, n2, h2⟩ := h1.uncons
  obtain ⟨x3, r3, e3, n3, h3⟩ := h2.uncons
  obtain ⟨x4, r4, e4, n4, h4⟩ := h3.uncons
  obtain ⟨x5, r5, e5, n5, h5⟩ := h4.uncons
  obtain ⟨x6, r6, e6, n6, h6⟩ := h5.uncons
  obtain ⟨x7, r7, e7, n7, h7⟩ := h6.uncons
  obtain ⟨x8, r8, e8, n8, h8⟩ := h7.uncons
  obtain ⟨x9, r9, e9, n9, h9⟩ := h8.uncons
  obtain ⟨x10, r10, e10, n10, h10⟩ := h9.uncons
  obtain ⟨x11, r11, e11, n11, h11⟩ := h10.uncons
  exact ⟨x1, x2, x3, x4, x5, x6, x7, x8, x9, x10, x11, by rw [e1, e2, e3, e4, e5, e6, e7, e8, e9, e10, e11, h11.nil0], n1, n2, n3, n4, n5, n6, n7, n8, n9, n10, n11⟩
theorem Un.m11 {x1 x2 x3 x4 x5 x6 x7 x8 x9 x10 x11 : Sl} (h : nrS x1 = true ∧ nrS x2 = true ∧ nrS x3 = true ∧ nrS x4 = true ∧ nrS x5 = true ∧ nrS x6 = true ∧ nrS x7 = true ∧ nrS x8 = true ∧ nrS x9 = true ∧ nrS x10 = true ∧ nrS x11 = true) : Un 11 [x1, x2, x3, x4, x5, x6, x7, x8, x9, x10, x11] := ⟨rfl, fun s hs => by
  simp only [List.mem_cons, List.not_mem_nil, or_false] at hs
  rcases hs with rfl | rfl | rfl | rfl | rfl | rfl | rfl | rfl | rfl | rfl | rfl <;> simp [h]⟩
theorem Un.u12 {t : List Sl} (h : Un 12 t) : ∃ x1 x2 x3 x4 x5 x6 x7 x8 x9 x10 x11 x12, t = [x1, x2, x3, x4, x5, x6, x7, x8, x9, x10, x11, x12] ∧ nrS x1 = true ∧ nrS x2 = true ∧ nrS x3 = true ∧ nrS x4 = true ∧ nrS x5 = true ∧ nrS x6 = true ∧ nrS x7 = true ∧ nrS x8 = true ∧ nrS x9 = true ∧ nrS x10 = true ∧ nrS x11 = true ∧ nrS x12 = true := by
  obtain ⟨x1, r1, e1, n1, h1⟩ := h.uncons
  obtain ⟨x2, r2, e2, n2, h2⟩ := h1.uncons
  obtain ⟨x3, r3, e3, n3, h3⟩ := h2.uncons
  obtain ⟨x4, r4, e4, n4, h4⟩ := h3.uncons
  obtain ⟨x5, r5, e5, n5, h5⟩ := h4.uncons
  obtain ⟨x6, r6, e6, n6, h6⟩ := h5.uncons
  obtain ⟨x7, r7, e7, n7, h7⟩ := h6.uncons
  obtain ⟨x8, r8, e8, n8, h8⟩ := h7.uncons
  obtain ⟨x9, r9, e9, n9, h9⟩ := h8.uncons
  obtain ⟨x10, r10, e10, n10, h10⟩ := h9.uncons
  obtain ⟨x11, r11, e11, n11, h11⟩ := h10.uncons
  obtain ⟨x12, r12, e12, n12, h12⟩ := h11.uncons
  exact ⟨x1, x2, x3, x4, x5, x6, x7, x8, x9, x10, x11, x12, by rw [e1, e2, e3, e4, e5, e6, e7, e8, e9, e10, e11, e12, h12.nil0], n1, n2, n3, n4, n5, n6, n7, n8, n9, n10, n11, n12⟩
theorem Un.m12 {x1 x2 x3 x4 x5 x6 x7 x8 x9 x10 x11 x12 : Sl} (h : nrS x1 = true ∧ nrS x2 = true ∧ nrS x3 = true ∧ nrS x4 = true ∧ nrS x5 = true ∧ nrS x6 = true ∧ nrS x7 = true ∧ nrS x8 = true ∧ nrS x9 = true ∧ nrS x10 = true ∧ nrS x11 = true ∧ nrS x12 = true) : Un 12 [x1, x2, x3, x4, x5, x6, x7, x8, x9, x10, x11, x12] := ⟨rfl, fun s hs => by
  simp only [List.mem_cons, List.not_mem_nil, or_false] at hs
  rcases hs with rfl | rfl | rfl | rfl | rfl | rfl | rfl | rfl | rfl | rfl | rfl | rfl <;> simp [h]⟩
theorem Un.u13 {t : List Sl} (h : Un 13 t) : ∃ x1 x2 x3 x4 x5 x6 x7 x8 x9 x10 x11 x12 x13, t = [x1, x2, x3, x4, x5, x6, x7, x8, x9, x10, x11, x12, x13] ∧ nrS x1 = true ∧ nrS x2 = true ∧ nrS x3 = true ∧ nrS x4 = true ∧ nrS x5 = true ∧ nrS x6 = true ∧ nrS x7 = true ∧ nrS x8 = true ∧ nrS x9 = true ∧ nrS x10 = true ∧ nrS x11 = true ∧ nrS x12 = true ∧ nrS x13 = true := by
  obtain ⟨x1, r1, e1, n1, h1⟩ := h.uncons
  obtain ⟨x2, r2, e2, n2, h2⟩ := h1.uncons
  obtain ⟨x3, r3, e3, n3, h3⟩ := h2.uncons
  obtain ⟨x4, r4, e4, n4, h4⟩ := h3.uncons
  obtain ⟨x5, r5, e5, n5, h5⟩ := h4.uncons
  obtain ⟨x6, r6, e6, n6, h6⟩ := h5.uncons
  obtain ⟨x7, r7, e7, n7, h7⟩ := h6.uncons
  obtain ⟨x8, r8, e8, n8, h8⟩ := h7.uncons
  obtain ⟨x9, r9, e9, n9, h9⟩ := h8.uncons
  obtain ⟨x10, r10, e10, n10, h10⟩ := h9.uncons
  obtain ⟨x11, r11, e11, n11, h11⟩ := h10.uncons
  obtain ⟨x12, r12, e12, n12, h12⟩ := h11.uncons
  obtain ⟨x13, r13, e13, n13, h13⟩ := h12.uncons
  exact ⟨x1, x2, x3, x4, x5, x6, x7, x8, x9, x10, x11, x12, x13, by rw [e1, e2, e3, e4, e5, e6, e7, e8, e9, e10, e11, e12, e13, h13.nil0], n1, n2, n3, n4, n5, n6, n7, n8, n9, n10, n11, n12, n13⟩
theorem Un.m13 {x1 x2 x3 x4 x5 x6 x7 x8 x9 x10 x11 x12 x13 : Sl} (h : nrS x1 = true ∧ nrS x2 = true ∧ nrS x3 = true ∧ nrS x4 = true ∧ nrS x5 = true ∧ nrS x6 = true ∧ nrS x7 = true ∧ nrS x8 = true ∧ nrS x9 = true ∧ nrS x10 = true ∧ nrS x11 = true ∧ nrS x12 = true ∧ nrS x13 = true) : Un 13 [x1, x2, x3, x4, x5, x6, x7, x8, x9, x10, x11, x12, x13] := ⟨rfl, fun s hs => by
  simp only [List.mem_cons, List.not_mem_nil, or_false] at hs
  rcases hs with rfl | rfl | rfl | rfl | rfl | rfl | rfl | rfl | rfl | rfl | rfl | rfl | rfl <;> simp [h]⟩
theorem Un.u14 {t : List Sl} (h : Un 14 t) : ∃ x1 x2 x3 x4 x5 x6 x7 x8 x9 x10 x11 x12 x13 x14, t = [x1, x2, x3, x4, x5, x6, x7, x8, x9, x10, x11, x12, x13, x14] ∧ nrS x1 = true ∧ nrS x2 = true ∧ nrS x3 = true ∧ nrS x4 = true ∧ nrS x5 = true ∧ nrS x6 = true ∧ nrS x7 = true ∧ nrS x8 = true ∧ nrS x9 = true ∧ nrS x10 = true ∧ nrS x11 = true ∧ nrS x12 = true ∧ nrS x13 = true ∧ nrS x14 = true := by
  obtain ⟨x1, r1, e1, n1, h1⟩ := h.uncons
  obtain ⟨x2, r2, e2, n2, h2⟩ := h1.uncons
  obtain ⟨x3, r3, e3, n3, h3⟩ := h2.uncons
  obtain ⟨x4, r4, e4, n4, h4⟩ := h3.uncons
  obtain ⟨x5, r5, e5, n5, h5⟩ := h4.uncons
  obtain ⟨x6, r6, e6, n6, h6⟩ := h5.uncons
  obtain ⟨x7, r7, e7, n7, h7⟩ := h6.uncons
  obtain ⟨x8, r8, e8, n8, h8⟩ := h7.uncons
  obtain ⟨x9, r9, e9, n9, h9⟩ := h8.uncons
  obtain ⟨x10, r10, e10, n10, h10⟩ := h9.uncons
  obtain ⟨x11, r11, e11, n11, h11⟩ := h10.uncons
  obtain ⟨x12, r12, e12, n12, h12⟩ := h11.uncons
  obtain ⟨x13, r13, e13, n13, h13⟩ := h12.uncons
  obtain ⟨x14, r14, e14, n14, h14⟩ := h13.uncons
  exact ⟨x1, x2, x3, x4, x5, x6, x7, x8, x9, x10, x11, x12, x13, x14, by rw [e1, e2, e3, e4, e5, e6, e7, e8, e9, e10, e11, e12, e13, e14, h14.nil0], n1, n2, n3, n4, n5, n6, n7, n8, n9, n10, n11, n12, n13, n14⟩
theorem Un.m14 {x1 x2 x3 x4 x5 x6 x7 x8 x9 x10 x11 x12 x13 x14 : Sl} (h : nrS x1 = true ∧ nrS x2 = true ∧ nrS x3 = true ∧ nrS x4 = true ∧ nrS x5 = true ∧ nrS x6 = true ∧ nrS x7 = true ∧ nrS x8 = true ∧ nrS x9 = true ∧ nrS x10 = true ∧ nrS x11 = true ∧ nrS x12 = true ∧ nrS x13 = true ∧ nrS x14 = true) : Un 14 [x1, x2, x3, x4, x5, x6, x7, x8, x9, x10, x11, x12, x13, x14] := ⟨rfl, fun s hs => by
  simp only [List.mem_cons, List.not_mem_nil, or_false] at hs
  rcases hs with rfl | rfl | rfl | rfl | rfl | rfl | rfl | rfl | rfl | rfl | rfl | rfl | rfl | rfl <;> simp [h]⟩
theorem Un.u15 {t : List Sl} (h : Un 15 t) : ∃ x1 x2 x3 x4 x5 x6 x7 x8 x9 x10 x11 x12 x13 x14 x15, t = [x1, x2, x3, x4, x5, x6, x7, x8, x9, x10, x11, x12, x13, x14, x15] ∧ nrS x1 = true ∧ nrS x2 = true ∧ nrS x3 = true ∧ nrS x4 = true ∧ nrS x5 = true ∧ nrS x6 = true ∧ nrS x7 = true ∧ nrS x8 = true ∧ nrS x9 = true ∧ nrS x10 = true ∧ nrS x11 = true ∧ nrS x12 = true ∧ nrS x13 = true ∧ nrS x14 = true ∧ nrS x15 = true := by
  obtain ⟨x1, r1, e1, n1, h1⟩ := h.uncons
  obtain ⟨x2, r2, e2, n2, h2⟩ := h1.uncons
  obtain ⟨x3, r3, e3, n3, h3⟩ := h2.uncons
  obtain ⟨x4, r4, e4, n4, h4⟩ := h3.uncons
  obtain ⟨x5, r5, e5, n5, h5⟩ := h4.uncons
  obtain ⟨x6, r6, e6, n6, h6⟩ := h5.uncons
  obtain ⟨x7, r7, e7, n7, h7⟩ := h6.uncons
  obtain ⟨x8, r8, e8, n8, h8⟩ := h7.uncons
  obtain ⟨x9, r9, e9, n9, h9⟩ := h8.uncons
  obtain ⟨x10, r10, e10, n10, h10⟩ := h9.uncons
  obtain ⟨x11, r11, e11, n11, h11⟩ := h10.uncons
  obtain ⟨x12, r12, e12, n12, h12⟩ := h11.uncons
  obtain ⟨x13, r13, e13, n13, h13⟩ := h12.uncons
  obtain ⟨x14, r14, e14, n14, h14⟩ := h13.uncons
  obtain ⟨x15, r15, e15, n15, h15⟩ := h14.uncons
  exact ⟨x1, x2, x3, x4, x5, x6, x7, x8, x9, x10, x11, x12, x13, x14, x15, by rw [e1, e2, e3, e4, e5, e6, e7, e8, e9, e10, e11, e12, e13, e14, e15, h15.nil0], n1, n2, n3, n4, n5, n6, n7, n8, n9, n10, n11, n12, n13, n14, n15⟩
theorem Un.m15 {x1 x2 x3 x4 x5 x6 x7 x8 x9 x10 x11 x12 x13 x14 x15 : Sl} (h : nrS x1 = true ∧ nrS x2 = true ∧ nrS x3 = true ∧ nrS x4 = true ∧ nrS x5 = true ∧ nrS x6 = true ∧ nrS x7 = true ∧ nrS x8 = true ∧ nrS x9 = true ∧ nrS x10 = true ∧ nrS x11 = true ∧ nrS x12 = true ∧ nrS x13 = true ∧ nrS x14 = true ∧ nrS x15 = true) : Un 15 [x1, x2, x3, x4, x5, x6, x7, x8, x9, x10, x11, x12, x13, x14, x15] := ⟨rfl, fun s hs => by
  simp only [List.mem_cons, List.not_mem_nil, or_false] at hs
  rcases hs with rfl | rfl | rfl | rfl | rfl | rfl | rfl | rfl | rfl | rfl | rfl | rfl | rfl | rfl | rfl <;> simp [h]⟩
theorem Un.u16 {t : List Sl} (h : Un 16 t) : ∃ x1 x2 x3 x4 x5 x6 x7 x8 x9 x10 x11 x12 x13 x14 x15 x16, t = [x1, x2, x3, x4, x5, x6, x7, x8, x9, x10, x11, x12, x13, x14, x15, x16] ∧ nrS x1 = true ∧ nrS x2 = true ∧ nrS x3 = true ∧ nrS x4 = true ∧ nrS x5 = true ∧ nrS x6 = true ∧ nrS x7 = true ∧ nrS x8 = true ∧ nrS x9 = true ∧ nrS x10 = true ∧ nrS x11 = true ∧ nrS x12 = true ∧ nrS x13 = true ∧ nrS x14 = true ∧ nrS x15 = true ∧ nrS x16 = true := by
  obtain ⟨x1, r1, e1, n1, h1⟩ := h.uncons
  obtain ⟨x2, r2, e2, n2, h2⟩ := h1.uncons
  obtain ⟨x3, r3, e3, n3, h3⟩ := h2.uncons
  obtain ⟨x4, r4, e4, n4, h4⟩ := h3.uncons
  obtain ⟨x5, r5, e5, n5, h5⟩ := h4.uncons
  obtain ⟨x6, r6, e6, n6, h6⟩ := h5.uncons
  obtain ⟨x7, r7, e7, n7, h7⟩ := h6.uncons
  obtain ⟨x8, r8, e8, n8, h8⟩ := h7.uncons
  obtain ⟨x9, r9, e9, n9, h9⟩ := h8.uncons
  obtain ⟨x10, r10, e10, n10, h10⟩ := h9.uncons
  obtain ⟨x11, r11, e11, n11, h11⟩ := h10.uncons
  obtain ⟨x12, r12, e12, n12, h12⟩ := h11.uncons
  obtain ⟨x13, r13, e13, n13, h13⟩ := h12.uncons
  obtain ⟨x14, r14, e14, n14, h14⟩ := h13.uncons
  obtain ⟨x15, r15, e15, n15, h15⟩ := h14.uncons
  obtain ⟨x16, r16, e16, n16, h16⟩ := h15.uncons
  exact ⟨x1, x2, x3, x4, x5, x6, x7, x8, x9, x10, x11, x12, x13, x14, x15, x16, by rw [e1, e2, e3, e4, e5, e6, e7, e8, e9, e10, e11, e12, e13, e14, e15, e16, h16.nil0], n1, n2, n3, n4, n5, n6, n7, n8, n9, n10, n11, n12, n13, n14, n15, n16⟩
theorem Un.m16 {x1 x2 x3 x4 x5 x6 x7 x8 x9 x10 x11 x12 x13 x14 x15 x16 : Sl} (h : nrS x1 = true ∧ nrS x2 = true ∧ nrS x3 = true ∧ nrS x4 = true ∧ nrS x5 = true ∧ nrS x6 = true ∧ nrS x7 = true ∧ nrS x8 = true ∧ nrS x9 = true ∧ nrS x10 = true ∧ nrS x11 = true ∧ nrS x12 = true ∧ nrS x13 = true ∧ nrS x14 = true ∧ nrS x15 = true ∧ nrS x16 = true) : Un 16 [x1, x2, x3, x4, x5, x6, x7, x8, x9, x10, x11, x12, x13, x14, x15, x16] := ⟨rfl, fun s hs => by
  simp only [List.mem_cons, List.not_mem_nil, or_false] at hs
  rcases hs with rfl | rfl | rfl | rfl | rfl | rfl | rfl | rfl | rfl | rfl | rfl | rfl | rfl | rfl | rfl | rfl <;> simp [h]⟩
theorem Un.u17 {t : List Sl} (h : Un 17 t) : ∃ x1 x2 x3 x4 x5 x6 x7 x8 x9 x10 x11 x12 x13 x14 x15 x16 x17, t = [x1, x2, x3, x4, x5, x6, x7, x8, x9, x10, x11, x12, x13, x14, x15, x16, x17] ∧ nrS x1 = true ∧ nrS x2 = true ∧ nrS x3 = true ∧ nrS x4 = true ∧ nrS x5 = true ∧ nrS x6 = true ∧ nrS x7 = true ∧ nrS x8 = true ∧ nrS x9 = true ∧ nrS x10 = true ∧ nrS x11 = true ∧ nrS x12 = true ∧ nrS x13 = true ∧ nrS x14 = true ∧ nrS x15 = true ∧ nrS x16 = true ∧ nrS x17 = true := by
  obtain ⟨x1, r1, e1, n1, h1⟩ := h.uncons
  obtain ⟨x2, r2, e2, n2, h2⟩ := h1.uncons
  obtain ⟨x3, r3, e3, n3, h3⟩ := h2.uncons
  obtain ⟨x4, r4, e4, n4, h4⟩ := h3.uncons
  obtain ⟨x5, r5, e5, n5, h5⟩ := h4.uncons
  obtain ⟨x6, r6, e6, n6, h6⟩ := h5.uncons
  obtain ⟨x7, r7, e7, n7, h7⟩ := h6.uncons
  obtain ⟨x8, r8, e8, n8, h8⟩ := h7.uncons
  obtain ⟨x9, r9, e9, n9, h9⟩ := h8.uncons
  obtain ⟨x10, r10, e10, n10, h10⟩ := h9.uncons
  obtain ⟨x11, r11, e11, n11, h11⟩ := h10.uncons
  obtain ⟨x12, r12, e12, n12, h12⟩ := h11.uncons
  obtain ⟨x13, r13, e13, n13, h13⟩ := h12.uncons
  obtain ⟨x14, r14, e14, n14, h14⟩ := h13.uncons
  obtain ⟨x15, r15, e15, n15, h15⟩ := h14.uncons
  obtain ⟨x16, r16, e16, n16, h16⟩ := h15.uncons
  obtain ⟨x17, r17, e17, n17, h17⟩ := h16.uncons
  exact ⟨x1, x2, x3, x4, x5, x6, x7, x8, x9, x10, x11, x12, x13, x14, x15, x16, x17, by rw [e1, e2, e3, e4, e5, e6, e7, e8, e9, e10, e11, e12, e13, e14, e15, e16, e17, h17.nil0], n1, n2, n3, n4, n5, n6, n7, n8, n9, n10, n11, n12, n13, n14, n15, n16, n17⟩
theorem Un.m17 {x1 x2 x3 x4 x5 x6 x7 x8 x9 x10 x11 x12 x13 x14 x15 x16 x17 : Sl} (h : nrS x1 = true ∧ nrS x2 = true ∧ nrS x3 = true ∧ nrS x4 = true ∧ nrS x5 = true ∧ nrS x6 = true ∧ nrS x7 = true ∧ nrS x8 = true ∧ nrS x9 = true ∧ nrS x10 = true ∧ nrS x11 = true ∧ nrS x12 = true ∧ nrS x13 = true ∧ nrS x14 = true ∧ nrS x15 = true ∧ nrS x16 = true ∧ nrS x17 = true) : Un 17 [x1, x2, x3, x4, x5, x6, x7, x8, x9, x10, x11, x12, x13, x14, x15, x16, x17] := ⟨rfl, fun s hs => by
  simp only [List.mem_cons, List.not_mem_nil, or_false] at hs
  rcases hs with rfl | rfl | rfl | rfl | rfl | rfl | rfl | rfl | rfl | rfl | rfl | rfl | rfl | rfl | rfl | rfl | rfl <;> simp [h]⟩
theorem Un.u18 {t : List Sl} (h : Un 18 t) : ∃ x1 x2 x3 x4 x5 x6 x7 x8 x9 x10 x11 x12 x13 x14 x15 x16 x17 x18, t = [x1, x2, x3, x4, x5, x6, x7, x8, x9, x10, x11, x12, x13, x14, x15, x16, x17, x18] ∧ nrS x1 = true ∧ nrS x2 = true ∧ nrS x3 = true ∧ nrS x4 = true ∧ nrS x5 = true ∧ nrS x6 = true ∧ nrS x7 = true ∧ nrS x8 = true ∧ nrS x9 = true ∧ nrS x10 = true ∧ nrS x11 = true ∧ nrS x12 = true ∧ nrS x13 = true ∧ nrS x14 = true ∧ nrS x15 = true ∧ nrS x16 = true ∧ nrS x17 = true ∧ nrS x18 = true := by
  obtain ⟨x1, r1, e1, n1, h1⟩ := h.uncons
  obtain ⟨x2, r2, e2, n2, h2⟩ := h1.uncons
  obtain ⟨x3, r3, e3, n3, h3⟩ := h2.uncons
  obtain ⟨x4, r4, e4, n4, h4⟩ := h3.uncons
  obtain ⟨x5, r5, e5, n5, h5⟩ := h4.uncons
  obtain ⟨x6, r6, e6, n6, h6⟩ := h5.uncons
  obtain ⟨x7, r7, e7, n7, h7⟩ := h6.uncons
  obtain ⟨x8, r8, e8, n8, h8⟩ := h7.uncons
  obtain ⟨x9, r9, e9, n9, h9⟩ := h8.uncons
  obtain ⟨x10, r10, e10, n10, h10⟩ := h9.uncons
  obtain ⟨x11, r11, e11, n11, h11⟩ := h10.uncons
  obtain ⟨x12, r12, e12, n12, h12⟩ := h11.uncons
  obtain ⟨x13, r13, e13, n13, h13⟩ := h12.uncons
  obtain ⟨x14, r14, e14, n14, h14⟩ := h13.uncons
  obtain ⟨x15, r15, e15, n15, h15⟩ := h14.uncons
  obtain ⟨x16, r16, e16, n16, h16⟩ := h15.uncons
  obtain ⟨x17, r17, e17, n17, h17⟩ := h16.uncons
  obtain ⟨x18, r18, e18, n18, h18⟩ := h17.uncons
  exact ⟨x1, x2, x3, x4, x5, x6, x7, x8, x9, x10, x11, x12, x13, x14, x15, x16, x17, x18, by rw [e1, e2, e3, e4, e5, e6, e7, e8, e9, e10, e11, e12, e13, e14, e15, e16, e17, e18, h18.nil0], n1, n2, n3, n4, n5, n6, n7, n8, n9, n10, n11, n12, n13, n14, n15, n16, n17, n18⟩
theorem Un.m18 {x1 x2 x3 x4 x5 x6 x7 x8 x9 x10 x11 x12 x13 x14 x15 x16 x17 x18 : Sl} (h : nrS x1 = true ∧ nrS x2 = true ∧ nrS x3 = true ∧ nrS x4 = true ∧ nrS x5 = true ∧ nrS x6 = true ∧ nrS x7 = true ∧ nrS x8 = true ∧ nrS x9 = true ∧ nrS x10 = true ∧ nrS x11 = true ∧ nrS x12 = true ∧ nrS x13 = true ∧ nrS x14 = true ∧ nrS x15 = true ∧ nrS x16 = true ∧ nrS x17 = true ∧ nrS x18 = true) : Un 18 [x1, x2, x3, x4, x5, x6, x7, x8, x9, x10, x11, x12, x13, x14, x15, x16, x17, x18] := ⟨rfl, fun s hs => by
  simp only [List.mem_cons, List.not_mem_nil, or_false] at hs
  rcases hs with rfl | rfl | rfl | rfl | rfl | rfl | rfl | rfl | rfl | rfl | rfl | rfl | rfl | rfl | rfl | rfl | rfl | rfl <;> simp [h]⟩
theorem Un.u19 {t : List Sl} (h : Un 19 t) : ∃ x1 x2 x3 x4 x5 x6 x7 x8 x9 x10 x11 x12 x13 x14 x15 x16 x17 x18 x19, t = [x1, x2, x3, x4, x5, x6, x7, x8, x9, x10, x11, x12, x13, x14, x15, x16, x17, x18, x19] ∧ nrS x1 = true ∧ nrS x2 = true ∧ nrS x3 = true ∧ nrS x4 = true ∧ nrS x5 = true ∧ nrS x6 = true ∧ nrS x7 = true ∧ nrS x8 = true ∧ nrS x9 = true ∧ nrS x10 = true ∧ nrS x11 = true ∧ nrS x12 = true ∧ nrS x13 = true ∧ nrS x14 = true ∧ nrS x15 = true ∧ nrS x16 = true ∧ nrS x17 = true ∧ nrS x18 = true ∧ nrS x19 = true := by
  obtain ⟨x1, r1, e1, n1, h1⟩ := h.uncons
  obtain ⟨x2, r2, e2, n2, h2⟩ := h1.uncons
  obtain ⟨x3, r3, e3, n3, h3⟩ := h2.uncons
  obtain ⟨x4, r4, e4, n4, h4⟩ := h3.uncons
  obtain ⟨x5, r5, e5, n5, h5⟩ := h4.uncons
  obtain ⟨x6, r6, e6, n6, h6⟩ := h5.uncons
  obtain ⟨x7, r7, e7, n7, h7⟩ := h6.uncons
  obtain ⟨x8, r8, e8, n8, h8⟩ := h7.uncons
  obtain ⟨x9, r9, e9, n9, h9⟩ := h8.uncons
  obtain ⟨x10, r10, e10, n10, h10⟩ := h9.uncons
  obtain ⟨x11, r11, e11, n11, h11⟩ := h10.uncons
  obtain ⟨x12, r12, e12, n12, h12⟩ := h11.uncons
  obtain ⟨x13, r13, e13, n13, h13⟩ := h12.uncons
  obtain ⟨x14, r14, e14, n14, h14⟩ := h13.uncons
  obtain ⟨x15, r15, e15, n15, h15⟩ := h14.uncons
  obtain ⟨x16, r16, e16, n16, h16⟩ := h15.uncons
  obtain ⟨x17, r17, e17, n17, h17⟩ := h16.uncons
  obtain ⟨x18, r18, e18, n18, h18⟩ := h17.uncons
  obtain ⟨x19, r19, e19, n19, h19⟩ := h18.uncons
  exact ⟨x1, x2, x3, x4, x5, x6, x7, x8, x9, x10, x11, x12, x13, x14, x15, x16, x17, x18, x19, by rw [e1, e2, e3, e4, e5, e6, e7, e8, e9, e10, e11, e12, e13, e14, e15, e16, e17, e18, e19, h19.nil0], n1, n2, n3, n4, n5, n6, n7, n8, n9, n10, n11, n12, n13, n14, n15, n16, n17, n18, n19⟩
theorem Un.m19 {x1 x2 x3 x4 x5 x6 x7 x8 x9 x10 x11 x12 x13 x14 x15 x16 x17 x18 x19 : Sl} (h : nrS x1 = true ∧ nrS x2 = true ∧ nrS x3 = true ∧ nrS x4 = true ∧ nrS x5 = true ∧ nrS x6 = true ∧ nrS x7 = true ∧ nrS x8 = true ∧ nrS x9 = true ∧ nrS x10 = true ∧ nrS x11 = true ∧ nrS x12 = true ∧ nrS x13 = true ∧ nrS x14 = true ∧ nrS x15 = true ∧ nrS x16 = true ∧ nrS x17 = true ∧ nrS x18 = true ∧ nrS x19 = true) : Un 19 [x1, x2, x3, x4, x5, x6, x7, x8, x9, x10, x11, x12, x13, x14, x15, x16, x17, x18, x19] := ⟨rfl, fun s hs => by
  simp only [List.mem_cons, List.not_mem_nil, or_false] at hs
  rcases hs with rfl | rfl | rfl | rfl | rfl | rfl | rfl | rfl | rfl | rfl | rfl | rfl | rfl | rfl | rfl | rfl | rfl | rfl | rfl <;> simp [h]⟩
theorem Un.u20 {t : List Sl} (h : Un 20 t) : ∃ x1 x2 x3 x4 x5 x6 x7 x8 x9 x10 x11 x12 x13 x14 x15 x16 x17 x18 x19 x20, t = [x1, x2, x3, x4, x5, x6, x7, x8, x9, x10, x11, x12, x13, x14, x15, x16, x17, x18, x19, x20] ∧ nrS x1 = true ∧ nrS x2 = true ∧ nrS x3 = true ∧ nrS x4 = true ∧ nrS x5 = true ∧ nrS x6 = true ∧ nrS x7 = true ∧ nrS x8 = true ∧ nrS x9 = true ∧ nrS x10 = true ∧ nrS x11 = true ∧ nrS x12 = true ∧ nrS x13 = true ∧ nrS x14 = true ∧ nrS x15 = true ∧ nrS x16 = true ∧ nrS x17 = true ∧ nrS x18 = true ∧ nrS x19 = true ∧ nrS x20 = true := by
  obtain ⟨x1, r1, e1, n1, h1⟩ := h.uncons
  obtain ⟨x2, r2, e2, n2, h2⟩ := h1.uncons
  obtain ⟨x3, r3, e3, n3, h3⟩ := h2.uncons
  obtain ⟨x4, r4, e4, n4, h4⟩ := h3.uncons
  obtain ⟨x5, r5, e5, n5, h5⟩ := h4.uncons
  obtain ⟨x6, r6, e6, n6, h6⟩ := h5.uncons
  obtain ⟨x7, r7, e7, n7, h7⟩ := h6.uncons
  obtain ⟨x8, r8, e8, n8, h8⟩ := h7.uncons
  obtain ⟨x9, r9, e9, n9, h9⟩ := h8.uncons
  obtain ⟨x10, r10, e10, n10, h10⟩ := h9.uncons
  obtain ⟨x11, r11, e11, n11, h11⟩ := h10.uncons
  obtain ⟨x12, r12, e12, n12, h12⟩ := h11.uncons
  obtain ⟨x13, r13, e13, n13, h13⟩ := h12.uncons
  obtain ⟨x14, r14, e14, n14, h14⟩ := h13.uncons
  obtain ⟨x15, r15, e15, n15, h15⟩ := h14.uncons
  obtain ⟨x16, r16, e16, n16, h16⟩ := h15.uncons
  obtain ⟨x17, r17, e17, n17, h17⟩ := h16.uncons
  obtain ⟨x18, r18, e18, n18, h18⟩ := h17.uncons
  obtain ⟨x19, r19, e19, n19, h19⟩ := h18.uncons
  obtain ⟨x20, r20, e20, n20, h20⟩ := h19.uncons
  exact ⟨x1, x2, x3, x4, x5, x6, x7, x8, x9, x10, x11, x12, x13, x14, x15, x16, x17, x18, x19, x20, by rw [e1, e2, e3, e4, e5, e6, e7, e8, e9, e10, e11, e12, e13, e14, e15, e16, e17, e18, e19, e20, h20.nil0], n1, n2, n3, n4, n5, n6, n7, n8, n9, n10, n11, n12, n13, n14, n15, n16, n17, n18, n19, n20⟩
theorem Un.m20 {x1 x2 x3 x4 x5 x6 x7 x8 x9 x10 x11 x12 x13 x14 x15 x16 x17 x18 x19 x20 : Sl} (h : nrS x1 = true ∧ nrS x2 = true ∧ nrS x3 = true ∧ nrS x4 = true ∧ nrS x5 = true ∧ nrS x6 = true ∧ nrS x7 = true ∧ nrS x8 = true ∧ nrS x9 = true ∧ nrS x10 = true ∧ nrS x11 = true ∧ nrS x12 = true ∧ nrS x13 = true ∧ nrS x14 = true ∧ nrS x15 = true ∧ nrS x16 = true ∧ nrS x17 = true ∧ nrS x18 = true ∧ nrS x19 = true ∧ nrS x20 = true) : Un 20 [x1, x2, x3, x4, x5, x6, x7, x8, x9, x10, x11, x12, x13, x14, x15, x16, x17, x18, x19, x20] := ⟨rfl, fun s hs => by
  simp only [List.mem_cons, List.not_mem_nil, or_false] at hs
  rcases hs with rfl | rfl | rfl | rfl | rfl | rfl | rfl | rfl | rfl | rfl | rfl | rfl | rfl | rfl | rfl | rfl | rfl | rfl | rfl | rfl <;> simp [h]⟩
/-- a comprehension turn by turn -/
theorem compF_go {α : Type} {g : MG} {t : MT} {me : ME} {vs : List Nat} (q : α → PyData) (I : List α → List PyData → Rho → Prop) (all : List α) {ρ : Rho} (h : I [] [] ρ)
    (st : ∀ pre x post ys ρ, all = pre ++ x :: post → I pre ys ρ → ∃ ρ1 c ρ2, g (q x) ρ = some ρ1 ∧ t ρ1 = some (.ok c ρ2) ∧
      ((c = true ∧ ∃ y ρ3, mFrz me ρ2 = some (.ok y ρ3) ∧ I (pre ++ [x]) (ys ++ [y]) (wipeR ρ3 vs)) ∨ (c = false ∧ I (pre ++ [x]) ys (wipeR ρ2 vs)))) :
    ∃ ys ρ', compF g t me vs (all.map q) [] ρ = some (.ok ys ρ') ∧ I all ys ρ' := by
  have main : ∀ (xs pre : List α) (ys : List PyData) (ρ : Rho), all = pre ++ xs → I pre ys ρ → ∃ zs ρ', compF g t me vs (xs.map q) ys ρ = some (.ok zs ρ') ∧ I all zs ρ' := by
    intro xs
    induction xs with
    | nil => intro pre ys ρ e h; exact ⟨ys, ρ, rfl, by rw [e, List.append_nil]; exact h⟩
    | cons x xs ih =>
      intro pre ys ρ e h
      obtain ⟨ρ1, c, ρ2, e1, e2, h2⟩ := st pre x xs ys ρ e h
      have un : compF g t me vs ((x :: xs).map q) ys ρ = bd (t ρ1) fun c ρ2 => if c then bd (mFrz me ρ2) fun y ρ3 => compF g t me vs (xs.map q) (ys ++ [y]) (wipeR ρ3 vs) else compF g t me vs (xs.map q) ys (wipeR ρ2 vs) := by
        show (match g (q x) ρ with
          | none => none
          | some ρ1 => bd (t ρ1) fun c ρ2 => if c then bd (mFrz me ρ2) fun y ρ3 => compF g t me vs (xs.map q) (ys ++ [y]) (wipeR ρ3 vs) else compF g t me vs (xs.map q) ys (wipeR ρ2 vs)) = _
        rw [e1]
      rw [un, e2, bd_ok]
      have ea : all = (pre ++ [x]) ++ xs := by rw [e, List.append_assoc]; rfl
      rcases h2 with ⟨rfl, y, ρ3, e3, h3⟩ | ⟨rfl, h3⟩
      · rw [if_pos rfl, e3, bd_ok]
        exact ih _ _ _ ea h3
      · rw [if_neg (by decide)]
        exact ih _ _ _ ea h3
  exact main all [] [] ρ rfl h
theorem mLc_go {α : Type} {mi : MI} {g : MG} {t : MT} {me : ME} {vs : List Nat} {ρ ρ1 : Rho} (q : α → PyData) (I : List α → List PyData → Rho → Prop) (all : List α) (hi : mi ρ = some (.ok (all.map q) ρ1)) (hl : all.length ≤ 1000000) (h : I [] [] (wipeR ρ1 vs))
    (st : ∀ pre x post ys ρ, all = pre ++ x :: post → I pre ys ρ → ∃ ρ1 c ρ2, g (q x) ρ = some ρ1 ∧ t ρ1 = some (.ok c ρ2) ∧
      ((c = true ∧ ∃ y ρ3, mFrz me ρ2 = some (.ok y ρ3) ∧ I (pre ++ [x]) (ys ++ [y]) (wipeR ρ3 vs)) ∨ (c = false ∧ I (pre ++ [x]) ys (wipeR ρ2 vs)))) :
    ∃ ys ρ', mLc mi g t me vs ρ = some (.ok (.o (.l ys)) ρ') ∧ I all ys ρ' := by
  obtain ⟨ys, ρ', e, h'⟩ := compF_go (g := g) (t := t) (me := me) (vs := vs) q I all h st
  refine ⟨ys, ρ', ?_, h'⟩
  unfold mLc
  rw [hi, bd_ok, if_pos (by rw [List.length_map]; exact lim hl), e]
  rfl
/-- xs[:-1] of a list with one more at its end -/
theorem fSl_last (xs : List PyData) (y : PyData) : fSl none (some (-1)) (.list (xs ++ [y])) = some (.li xs) := by
  show some (Vr.li (cutP (xs ++ [y]) none (some (-1)))) = _
  congr 2
  unfold cutP
  rw [HT.sIx_none, List.drop_zero]
  have e : HT.sIx (xs ++ [y]).length (xs ++ [y]).length (some (-1)) = xs.length := by
    unfold HT.sIx
    show (if (-1 : Int) < 0 then ((-1 : Int) + ((xs ++ [y]).length : Int)).toNat else min (-1 : Int).toNat (xs ++ [y]).length) = _
    rw [if_pos (by decide), List.length_append, List.length_singleton]
    omega
  rw [e, Nat.sub_zero, List.take_append_of_le_length (Nat.le_refl _), List.take_length]
theorem rep_single (n x : Nat) : (List.replicate n [x]).flatten = List.replicate n x := by
  induction n with
  | zero => rfl
  | succ n ih => rw [List.replicate_succ, List.flatten_cons, ih]; rfl
/-- a slice up to a reckoned place -/
theorem fSl_toI {l : List Nat} (k : Nat) {i : Int} (e : i = k) (h : l.length ≤ 1000000) : fSl none (some i) (tx l) = some (.it (tx (l.take k))) := by rw [e, fSl_toS, if_pos h]
theorem fSl_fromI {l : List Nat} (k : Nat) {i : Int} (e : i = k) (h : l.length ≤ 1000000) : fSl (some i) none (tx l) = some (.it (tx (l.drop k))) := by rw [e, fSl_fromS, if_pos h]
end Pv

/-! sum of a tuple of ints; comparisons with an empty list. -/
namespace Pv
open PySem PySem.Spec PyProof.Rows L2
section
variable {P : Program} {w : World} {A : Around} {E : Value → Shared → Prop} {s : Shared} {l : Addr}
theorem sum_tupleG {xs : Array (Int × Tok)} {Q : Value → Shared → Prop} (hh : A.handled = none) (hl : s.heap.IsTuple l (intItems xs))
    (h : ∀ h' tk t', (∀ b o, s.heap.get? b = some o → h'.get? b = some o) → Q (.int (preSum (numAt xs) xs.size) t') { s with heap := h', toks := tk }) :
    wpAny (model P w) A (call (.builtin "sum") [.ref l]) Q E s := by
  have hlt : l < s.heap.objs.size := by obtain ⟨_, e, _⟩ := hl; exact Heap.lt_size e
  refine call_sum_walkG (wpAny_pyIter_tuple hl ?_)
  refine ⟨_, _, _, _, _, _, numAt xs, rfl, Walks.tuple (A := A.in1) hh _ l (Nat.ne_of_lt hlt) (intItems xs), ⟨⟨_, Heap.get?_push_size _ rfl, rfl, rfl⟩, hl.push _⟩, fun b hb => ?_, (fun _ _ => intItems_at), fun h' tk t' hk => ?_⟩
  · show b < (s.heap.push _).objs.size
    rw [Heap.size_push]
    rcases List.mem_cons.mp hb with rfl | hb
    · exact Nat.lt_succ_self _
    · rcases List.mem_cons.mp hb with rfl | hb
      · exact Nat.lt_succ_of_lt hlt
      · cases hb
  · have hold : ∀ c o, s.heap.get? c = some o → h'.get? c = some o := fun c o e => by
      refine hk c o (fun hm => ?_) (Heap.get?_push_of_some _ e)
      have e1 := List.mem_singleton.mp hm
      have := Heap.lt_size e
      rw [e1] at this
      exact Nat.lt_irrefl _ this
    have := h h' tk t' hold
    simpa [intItems] using this
theorem sum_tuple_raw {its : List Value} {ns : List Int} {Q : Value → Shared → Prop} (hh : A.handled = none) (hl : s.heap.IsTuple l its.toArray) (hi : IntsAre its ns)
    (h : ∀ h' tk t', (∀ b o, s.heap.get? b = some o → h'.get? b = some o) → Q (.int ns.sum t') { s with heap := h', toks := tk }) : wpAny (model P w) A (call (.builtin "sum") [.ref l]) Q E s := by
  obtain ⟨xs, e⟩ := hi.allInts.items
  have hn : numsOf (intItems xs).toList = ns := by rw [← e]; exact hi.numsOf
  rw [nums_intItems] at hn
  rw [e] at hl
  refine sum_tupleG hh hl fun h' tk t' hk => ?_
  have := h h' tk t' hk
  rw [preSum_eq, List.take_of_length_le (by simp), hn]; exact this
end
def rSumT (K : PySem.W.Frag) : List V → Hp → VK → Prop := fun vs H Q => ∃ (a : Addr) (ns : List Int), vs = [V.ref a] ∧ SqT K H a (ns.map V.int) ∧ Q (.int ns.sum) H
theorem cr_sumT {X : Cx} (hc : X.calm = true) : CallR X (.builtin "sum") (rSumT X.K) := by
  intro pins s σ H vs us Q I r h
  obtain ⟨a, ns, rfl, hs, q⟩ := h
  obtain ⟨its, rv, hl, _⟩ := I.tuple hs
  rw [Vals.ref1 r]
  exact sum_tuple_raw (I.ok.hd hc) hl rv.ints fun h' tk t' hk => ⟨.int _, H, I.kept hk, ⟨_, rfl⟩, q⟩
def fSumT (x : PyData) : Option Vr := match x with
  | .tuple xs => (intsOf xs).map fun ns => .it (.int ns.sum)
  | _ => none
theorem c_sumT {K : PySem.W.Frag} : ∀ u H Q, rF1 fSumT u H Q → rSumT K [u] H Q := by
  intro u H Q ⟨F, d, r, sm, hx, hf, k⟩
  unfold fSumT at hf
  split at hf
  · obtain ⟨ns, e, rfl⟩ := Option.map_eq_some_iff.mp hf
    obtain ⟨p, vs, rfl, hp, ra⟩ := hx.tup
    rw [intsOf_eq e] at ra
    rw [RpA.ints ra] at hp
    exact ⟨p, ns, rfl, SqT.of (sm _ _ hp), k _ (.int _)⟩
  · cases hf
theorem flatMap_snoc {α β : Type} (f : α → List β) (l : List α) (a : α) : (l ++ [a]).flatMap f = l.flatMap f ++ f a := by rw [List.flatMap_append, List.flatMap_cons, List.flatMap_nil, List.append_nil]
theorem AB_lt {x : Nat} (h : x ∈ AB) : x < 1000 := by simp at h; omega
/-! lists against the empty one -/
theorem fEq_nil {k : Nat} {xs : List PyData} (h : ShD k (.list xs)) (hk : k ≤ 64) : fEq (.list xs) (.list []) = some (.it (.bool xs.isEmpty)) := by
  have h2 : ShD k (.list []) := ⟨rfl, by
    have := h.2
    cases k with
    | zero => exact absurd this (by show ¬ (PyData.depthAll xs + 1 ≤ 0); omega)
    | succ k => show PyData.depthAll [] + 1 ≤ k + 1; exact Nat.succ_le_succ (Nat.zero_le _)⟩
  rw [fEq_list h h2 hk]
  cases xs with
  | nil => rfl
  | cons a L => rfl
theorem fNe_nil {k : Nat} {xs : List PyData} (h : ShD k (.list xs)) (hk : k ≤ 64) : fNe (.list xs) (.list []) = some (.it (.bool (!xs.isEmpty))) := by
  have h2 : ShD k (.list []) := ⟨rfl, by
    have := h.2
    cases k with
    | zero => exact absurd this (by show ¬ (PyData.depthAll xs + 1 ≤ 0); omega)
    | succ k => show PyData.depthAll [] + 1 ≤ k + 1; exact Nat.succ_le_succ (Nat.zero_le _)⟩
  rw [fNe_list h h2 hk]
  cases xs with
  | nil => rfl
  | cons a L => rfl
theorem ShD.txs {W : List (List Nat)} (h : ∀ r ∈ W, ∀ c ∈ r, c < 1000) : ShD 1 (.list (W.map tx)) := ShD.list fun x hx => by
  obtain ⟨n, hn, rfl⟩ := List.mem_map.mp hx
  exact ShD.str (h n hn)
end Pv

/-! A new list handed on as a def's first argument; a text backward. -/
namespace Pv
open PySem PySem.Spec PyProof.Rows L2
/-- m(e, ..): e makes a new cell, which the def owns -/
def mCallO (m : MF) (me : ME) (ms : MI) : ME := fun ρ => bd (me ρ) fun v ρ1 => match v with
  | .o c => bd (ms ρ1) fun xs ρ2 => match m (.o c :: xs.map Sl.d) with
    | some (.ok (.d x) _) => some (.ok (.d x) ρ2)
    | some (.ok (.o c') _) => some (.ok (.o c') ρ2)
    | some (.er x _) => some (.er x ρ2)
    | _ => none
  | _ => none
section
variable {X : Cx} {e : Expr} {es : List Expr} {pos : Pos} {w : WC} {K : PySem.W.Frag} {fr : Fr} {F : Hp} {σ : L2.St} {H : Hp} {ρ : Rho}
open Classical in
noncomputable def ownZ (F H : Hp) (p : Addr) : Hp := fun b => if (F b = none ∧ b ≠ p) ∧ (∀ vs, H b ≠ some (.tup vs)) ∧ ∀ ps, H b ≠ some (.tbl ps) then H b else none
theorem ownZ_some {F H : Hp} {p b : Addr} {o : HO} : ownZ F H p b = some o ↔ ((F b = none ∧ b ≠ p) ∧ H b = some o) ∧ (∀ vs, o ≠ .tup vs) ∧ ∀ ps, o ≠ .tbl ps := by
  unfold ownZ
  by_cases c : (F b = none ∧ b ≠ p) ∧ (∀ vs, H b ≠ some (.tup vs)) ∧ ∀ ps, H b ≠ some (.tbl ps)
  · rw [if_pos c]; exact ⟨fun h => ⟨⟨c.1, h⟩, (fun vs z => c.2.1 vs (by rw [h, z])), (fun ps z => c.2.2 ps (by rw [h, z]))⟩, fun h => h.1.2⟩
  · rw [if_neg c]; exact ⟨fun h => (nomatch h), fun h => absurd ⟨h.1.1, (fun vs z => h.2.1 vs (Option.some.inj (h.1.2.symm.trans z))), (fun ps z => h.2.2 ps (Option.some.inj (h.1.2.symm.trans z)))⟩ c⟩
noncomputable def ownFr (fr : Fr) (F H : Hp) (p : Addr) : Fr := ⟨ownZ F H p, fun _ => none, fr.A, fun _ vs e => (ownZ_some.mp e).2.1 vs rfl, fun _ ps e => (ownZ_some.mp e).2.2 ps rfl⟩
theorem SR.zleO (S : SR K fr F σ H ρ) {p : Addr} (nZ : fr.Z p = none) : Same fr.Z (ownZ F H p) := fun b o e =>
  ownZ_some.mpr ⟨⟨⟨S.dj _ _ e, fun q => by subst q; rw [nZ] at e; cases e⟩, S.sZ _ _ e⟩, (fun vs z => fr.nt _ vs (by rw [e, z])), (fun ps z => fr.nq _ ps (by rw [e, z]))⟩
theorem SR.enterO (S : SR K fr F σ H ρ) {p : Addr} {c : Oc} {us : List V} {xs : List PyData} (nF : F p = none) (nZ : fr.Z p = none) (rep : OcRep F H p c) (ra : RpA F us xs) : SR K (ownFr fr F H p) F ((V.ref p :: us).map some) H (.o c :: xs.map Sl.d) := by
  have only : ∀ {j}, Own (.o c :: xs.map Sl.d) j → j = 0 := fun {j} ⟨c', z⟩ => by
    cases j with
    | zero => rfl
    | succ j =>
      exfalso
      rw [List.getElem?_cons_succ, List.getElem?_map] at z
      rcases z with z | z <;> (obtain ⟨y, _, e⟩ := Option.map_eq_some_iff.mp z; cases e)
  refine ⟨by rw [List.length_cons, List.length_map, List.length_map, List.length_cons, ra.length], S.sF, fun b o e => (ownZ_some.mp e).1.2, fun b o e => (ownZ_some.mp e).1.1.1, fun a ns q => (S.zleO nZ).seq (S.sA a ns q), fun j s e => ?_, fun i j q w1 w2 _ _ => by rw [only w1, only w2], S.x⟩
  cases j with
  | zero =>
    cases e
    exact ⟨p, rfl, nF, by cases q : ownZ F H p p with
      | none => exact q
      | some o => exact absurd rfl (ownZ_some.mp q).1.1.2, rep⟩
  | succ j =>
    rw [List.getElem?_cons_succ, List.getElem?_map] at e
    obtain ⟨y, hy, es⟩ := Option.map_eq_some_iff.mp e
    subst es
    obtain ⟨v, hv, rv⟩ := ra.get hy
    exact ⟨v, by rw [List.map_cons, List.getElem?_cons_succ, List.getElem?_map, hv]; rfl, rv⟩
theorem SR.backO (S : SR K fr F σ H ρ) {p : Addr} {us : List V} {F' H' : Hp} {ρc : Rho} (nZ : fr.Z p = none) (no : ∀ i, Own ρ i → σ[i]? ≠ some (some (.ref p))) (sm : Same F F') (S' : SR K (ownFr fr F H p) F' ((V.ref p :: us).map some) H' ρc) : SR K fr F' σ H' ρ ∧
    ∀ u c, EvRep (ownFr fr F H p) F' ((V.ref p :: us).map some) H' ρc u (.o c) → EvRep fr F' σ H' ρ u (.o c) := by
  have zk : ∀ b o, ownZ F H p b = some o → H' b = some o ∧ F' b = none := fun b o e => ⟨S'.sZ _ _ e, S'.dj _ _ e⟩
  have oth : ∀ i q, Own ρ i → σ[i]? = some (some (.ref q)) → F' q = none ∧ ∀ o, H q = some o → H' q = some o := fun i q w e => by
    obtain ⟨nF, nZ, ho, e'⟩ := S.ownAt w e
    have hqp : q ≠ p := fun z => no i w (by rw [← z]; exact e)
    have z := ownZ_some.mpr ⟨⟨⟨nF, hqp⟩, e'⟩, (fun vs y => S.ownNT w e vs (by rw [e', y])), (fun ps y => S.ownNQ w e ps (by rw [e', y]))⟩
    refine ⟨(zk _ _ z).2, fun o h => ?_⟩
    rw [e'] at h; cases h
    exact (zk _ _ z).1
  refine ⟨⟨S.len, S'.sF, fun b o e => S'.sZ _ _ (S.zleO nZ _ _ e), fun b o e => S'.dj _ _ (S.zleO nZ _ _ e), S.sA, fun i s e => ?_, S.inj, S'.x⟩, fun u c q => ?_⟩
  · have z := S.sl i s e
    cases s with
    | no => trivial
    | d x => obtain ⟨v, a, b⟩ := z; exact ⟨v, a, Rp.mono sm _ _ b⟩
    | scr ns => exact z
    | o c =>
      obtain ⟨q, a, nF, nZ, rep⟩ := z
      obtain ⟨h1, h2⟩ := oth i q ⟨c, .inl e⟩ a
      exact ⟨q, a, h1, nZ, rep.at sm h2⟩
    | r c =>
      obtain ⟨q, y, a, nF, nZ, rep⟩ := z
      obtain ⟨h1, h2⟩ := oth i q ⟨c, .inr e⟩ a
      exact ⟨q, y, a, h1, nZ, rep.at sm h2⟩
  · obtain ⟨q, e, nF, nZq, _, rep⟩ := q
    refine ⟨q, e, nF, (S.zleO nZ).free nZq, fun i w z => ?_, rep⟩
    obtain ⟨nF0, _, ho, e'⟩ := S.ownAt w z
    have hqp : q ≠ p := fun y => no i w (by rw [← y]; exact z)
    have zz := ownZ_some.mpr ⟨⟨⟨nF0, hqp⟩, e'⟩, (fun vs y => S.ownNT w z vs (by rw [e', y])), (fun ps y => S.ownNQ w z ps (by rw [e', y]))⟩
    have z2 : ownZ F H p q = none := nZq
    rw [zz] at z2; cases z2
theorem callO_of {m : MF} {me : ME} {ms : MI} {n : Nat} {Q : VK} (hn : ∀ (xs : List PyData) (ρ0 r0 : Rho), ms ρ0 = some (.ok xs r0) → xs.length + 1 = n) (h : tE K w (mCallO m me ms) σ H Q) : tCallS (spF K w.XR n m) (WE w.W) (tCons (tE K w me) (tA K w ms)) σ H Q := by
  obtain ⟨fr, F, ρ, S, h⟩ := h
  refine ⟨fr, F, ρ, S, h.bd fun v ρ1 F1 H1 u S1 s1 r1 h1 => ?_⟩
  match v, r1, h1 with
  | .d x, r1, h1 => exact h1.elim
  | .b i, r1, h1 => exact h1.elim
  | .o c, r1, h1 =>
    obtain ⟨g, le, Sg, back⟩ := hold S1 r1
    refine ⟨g, F1, ρ1, Sg, ?_⟩
    have h2 : WPg K w EvRep Q fr F1 σ (bd (ms ρ1) fun xs ρ2 => match m (.o c :: xs.map Sl.d) with
      | some (.ok (.d x) _) => some (.ok (.d x) ρ2)
      | some (.ok (.o c') _) => some (.ok (.o c') ρ2)
      | some (.er x _) => some (.er x ρ2)
      | _ => none) := h1
    cases em : ms ρ1 with
    | none => rw [em] at h2; exact h2.elim
    | some r0 =>
      rw [em] at h2
      cases r0 with
      | er x ρ2 => exact fun F2 H2 c2 d2 S2 s2 q => h2 F2 H2 c2 d2 (S2.shrink le S1.sA) s2 q
      | ok xs ρ2 =>
        intro F2 H2 us S2 s2 ra
        obtain ⟨S2', ev, up⟩ := back F2 H2 ρ2 S2 s2
        obtain ⟨p, rfl, nF, nZ, no, rep⟩ := ev
        refine ⟨by rw [List.length_cons, ra.length]; exact hn xs ρ1 ρ2 em, ownFr fr F2 H2 p, F2, .o c :: xs.map Sl.d, (fun i q e => nomatch e), S2'.enterO nF nZ rep ra, ?_⟩
        have h3 : WPg K w EvRep Q fr F1 σ (match m (.o c :: xs.map Sl.d) with
          | some (.ok (.d x) _) => some (.ok (.d x) ρ2)
          | some (.ok (.o c') _) => some (.ok (.o c') ρ2)
          | some (.er x _) => some (.er x ρ2)
          | _ => none) := h2
        match e : m (.o c :: xs.map Sl.d) with
        | none => rw [e] at h3; exact h3.elim
        | some (.ok (.b i) ρc') => rw [e] at h3; exact h3.elim
        | some (.ok (.d x) ρc') =>
          rw [e] at h3
          intro F3 H3 u3 S3 s3 r3
          obtain ⟨S4, _⟩ := S2'.backO nZ no s3 S3
          exact h3 F3 H3 u3 S4 (s2.trans s3) r3
        | some (.ok (.o c') ρc') =>
          rw [e] at h3
          intro F3 H3 u3 S3 s3 r3
          obtain ⟨S4, b⟩ := S2'.backO nZ no s3 S3
          exact h3 F3 H3 u3 S4 (s2.trans s3) (b u3 c' r3)
        | some (.er x ρc') =>
          rw [e] at h3
          intro F3 H3 c3 d3 S3 s3 r3
          obtain ⟨S4, _⟩ := S2'.backO nZ no s3 S3
          exact h3 F3 H3 c3 d3 S4 (s2.trans s3) r3
def DLen (ms : MI) (n : Nat) : Prop := ∀ (xs : List PyData) (ρ0 r0 : Rho), ms ρ0 = some (.ok xs r0) → xs.length = n
theorem dlen_nil : DLen mNil 0 := fun xs ρ0 r0 h => by cases h; rfl
theorem dlen_cons {me : ME} {ms : MI} {n : Nat} (h : DLen ms n) : DLen (mCons me ms) (n + 1) := fun xs ρ0 r0 q => by
  have q' : bd (mFrz me ρ0) (fun x ρ2 => bd (ms ρ2) fun xs ρ3 => some (.ok (x :: xs) ρ3)) = some (.ok xs r0) := q
  cases e1 : mFrz me ρ0 with
  | none => rw [e1] at q'; cases q'
  | some r =>
    rw [e1] at q'
    cases r with
    | er x ρ => cases q'
    | ok x ρ2 =>
      have q2 : bd (ms ρ2) (fun xs ρ3 => some (.ok (x :: xs) ρ3)) = some (.ok xs r0) := q'
      cases e2 : ms ρ2 with
      | none => rw [e2] at q2; cases q2
      | some r2 =>
        rw [e2] at q2
        cases r2 with
        | er x ρ => cases q2
        | ok ys ρ3 => cases q2; rw [List.length_cons, h _ _ _ e2]
theorem e_callO {CX : CXT} {k n : Nat} {f : Addr} {fd : FuncData} {ps : List Str} {m : MF} {me : ME} {ms : MI} {x : Str} {p : Pos} (G : FnOk X.prog X.w X.K X.mg X.base CX k f fd ps (spF X.K w.XR (n + 1) m)) (hr : Room k X.A) (hg : Gl X x) (hm : X.mg x = some (.ref f)) (hk : PySem.W.keepIn X.K (.ref f) = true) (hb : Binds X.K fd ps []) (hx : ∀ σ, PassesAt CX X σ (WE w.W σ))
    (he : PE X e (tE X.K w me)) (ha : PA X es (tA X.K w ms)) (hl : DLen ms n) (hdb : (x == ("__debug__" : Str)) = false := by decide) (hs : starEach (e :: es) X.env = (false, eval e X.env) :: starEach es X.env := by rfl) (hpl : (backTo pos (starEach es X.env)).any (·.1) = false := by rfl) :
    PE X (.Call (.Name x p) (e :: es) [] pos) (tE X.K w (mCallO m me ms)) := wkE (pe_callS G hr hg hm hk hb hx (pa_cons he ha hs) hdb hs hpl) fun _ _ _ h => callO_of (fun xs ρ0 r0 q => by rw [hl xs ρ0 r0 q]) h
@[simp] theorem mCallO_ap {m : MF} {me : ME} {ms : MI} : mCallO m me ms ρ = bd (me ρ) fun v ρ1 => match v with
  | .o c => bd (ms ρ1) fun xs ρ2 => match m (.o c :: xs.map Sl.d) with
    | some (.ok (.d x) _) => some (.ok (.d x) ρ2)
    | some (.ok (.o c') _) => some (.ok (.o c') ρ2)
    | some (.er x _) => some (.er x ρ2)
    | _ => none
  | _ => none := rfl
theorem fList_s {l : List Nat} (h : l.length ≤ 1000000) : fList (tx l) = some (.li (l.map fun c => tx [c])) := if_pos h
theorem flatMap_len {α β : Type} (f : α → List β) (k : Nat) (h : ∀ a, (f a).length ≤ k) : ∀ l : List α, (l.flatMap f).length ≤ k * l.length
  | [] => by simp
  | a :: l => by
    rw [List.flatMap_cons, List.length_append, List.length_cons, Nat.mul_succ]
    have := h a
    have := flatMap_len f k h l
    omega
/-! ### a text backward -/
def tRevS (te : TE) : TE := fun σ H Q => te σ H fun x H1 => ∃ z : Str, x = .str z ∧ z.length ≤ sizeLine ∧ Q (.str (mkS (sL z).reverse)) H1
theorem rev_indices (n : Nat) : Builtin.Str.strSliceIndices none none (-1) n = (List.range n).reverse := by
  show sliceRange ((n : Int) - 1) (-1) (-1) = _
  rw [PySem.W.krv_sliceRange, PySem.W.krv_range]
theorem pe_revS {te : TE} {k : Nat} {p1 p2 p3 pos : Pos} (he : PE X e te) : PE X (.Subscript e (.Slice none none (some (.UnaryOp .USub (.Constant (.int 1) k p1) p2)) p3) pos) (tRevS te) := by
  refine ⟨fun pins s σ H Q I h => ?_⟩
  refine Subscript_ (thn (he.run pins s σ H _ I h) fun v s1 ⟨x, H1, I1, r1, q1⟩ => ?_)
  obtain ⟨z, ex, hz, q⟩ := q1
  subst ex
  obtain ⟨t, rfl⟩ := r1
  have hst : PO X (some (.UnaryOp .USub (.Constant (.int 1) k p1) p2)) (tPart (tUn (rU fun i => .int (-i)) (tC (.int 1)))) := po_some (pe_un un_neg pe_int)
  refine wpAny_Slice (thn (po_none.run pins s1 σ H1 (fun o H2 => o = none ∧ H2 = H1) I1 ⟨rfl, rfl⟩) fun vl s2 ⟨l, H2, I2, pl, el, e2⟩ => ?_)
  subst el e2
  refine thn (po_none.run pins s2 σ H2 (fun o H3 => o = none ∧ H3 = H2) I2 ⟨rfl, rfl⟩) fun vu s3 ⟨u, H3, I3, pu, eu, e3⟩ => ?_
  subst eu e3
  refine thn (hst.run pins s3 σ H3 (fun o H4 => o = some (-1) ∧ H4 = H3) I3 ⟨1, rfl, -1, rfl, rfl, rfl⟩) fun vs s4 ⟨o, H4, I4, ps, eo, e4⟩ => ?_
  subst eo e4
  have I5 : Inv X pins σ H4 { s4 with heap := s4.heap.push { cls := .type "slice", data := .fields #[vl, vu, vs] } } := I4.kept (t' := s4.toks) fun b ob q => Heap.get?_push_of_some _ q
  obtain ⟨l, rfl, hl⟩ := IsPart.raw pl
  obtain ⟨u, rfl, hu⟩ := IsPart.raw pu
  obtain ⟨st, rfl, hs⟩ := IsPart.raw ps
  cases l with
  | some l => cases hl
  | none =>
    cases u with
    | some u => cases hu
    | none =>
      cases st with
      | none => cases hs
      | some st =>
        obtain ⟨i, ti⟩ := st
        have hi : i = -1 := by
          have := hs
          simp at this
          omega
        subst hi
        show wpAny (model X.prog X.w) X.A (subscriptTail e (.Slice none none (some (.UnaryOp .USub (.Constant (.int 1) k p1) p2)) p3) (.str z t) (.ref s4.heap.objs.size)) (EP X pins σ Q) X.xe { s4 with heap := s4.heap.push { cls := .type "slice", data := .fields #[partValue none, partValue none, partValue (some (-1, ti))] } }
        refine tail_any (ops := [.str z t, .ref s4.heap.objs.size]) (typeIs_str _ _ _) (PySem.F.slot_str_getitem.lookup) ?_ (by with_unfolding_all rfl)
        refine wpAny_getItem_str_slice (l := none) (u := none) (st := some (-1, ti)) ⟨_, Heap.get?_push_size _ rfl, rfl, rfl⟩ rfl ?_
        show Made.post (Made.str ⟨((Builtin.Str.strSliceIndices none none (-1) z.length).filterMap (z.cps[·]?)).toArray⟩) (EP X pins σ Q) _
        have ez : ((Builtin.Str.strSliceIndices none none (-1) z.length).filterMap (z.cps[·]?)).toArray = (mkS (sL z).reverse).cps := by
          rw [rev_indices, List.filterMap_reverse]
          have := PySem.W.krv_all z.cps
          show ((List.filterMap (z.cps[·]?) (List.range z.cps.size)).reverse).toArray = _
          rw [this]
          rfl
        rw [ez]
        refine ⟨?_, .str (mkS (sL z).reverse), H4, I5.tok _, ⟨_, rfl⟩, q⟩
        have : (mkS (sL z).reverse).length = z.length := by rw [len_sL, len_sL]; simp
        exact Nat.le_trans (Nat.le_of_eq this) hz
def fRevS (x : PyData) : Option Vr := match x with
  | .str z => if (sL z).length ≤ 1000000 then some (.it (tx (sL z).reverse)) else none
  | _ => none
theorem e_revS {me : ME} {k : Nat} {p1 p2 p3 : Pos} (he : PE X e (tE X.K w me)) : PE X (.Subscript e (.Slice none none (some (.UnaryOp .USub (.Constant (.int 1) k p1) p2)) p3) pos) (tE X.K w (mOp1 fRevS me)) := by
  refine wkE (pe_revS he) fun σ H Q h => ?_
  have h1 := op1_of h
  obtain ⟨fr, F, ρ, S, h1⟩ := h1
  refine ⟨fr, F, ρ, S, h1.imp fun _ _ _ H1 u _ _ _ q => ?_⟩
  obtain ⟨F, d, r, sm, hx, hf, k⟩ := q
  cases d with
  | str z =>
    have hf' : (if (sL z).length ≤ 1000000 then some (Vr.it (tx (sL z).reverse)) else none) = some r := hf
    by_cases c : (sL z).length ≤ 1000000
    · rw [if_pos c] at hf'
      cases hf'
      exact ⟨z, hx.sc rfl, by rw [len_sL]; exact lim c, k _ (.str _)⟩
    · rw [if_neg c] at hf'; cases hf'
  | none => cases hf
  | bool _ => cases hf
  | int _ => cases hf
  | list _ => cases hf
  | tuple _ => cases hf
  | dict _ => cases hf
@[simp] theorem fRevS_s {l : List Nat} : fRevS (tx l) = if l.length ≤ 1000000 then some (.it (tx l.reverse)) else none := Eq.trans rfl rfl
end
end Pv

/-! Recursion; sorted sets of letters. -/
namespace Pv
open PySem PySem.Spec PyProof.Rows L2
theorem s_nevers {X : Cx} {w : WC} {body : List Stmt} : PSs X body (tS X.K w mNever) := ⟨fun pins s σ H D I h => by
  obtain ⟨_, _, _, _, h⟩ := h
  exact h.elim⟩
/-- sorted(set(letters)) of a list of letters -/
theorem fSortSet_letters {l : List Nat} (hl : l.length < 4000) : fSortSet (.list (l.map fun c => tx [c])) = some (.li ((isort (ltG gC) (onceB l)).map fun c => tx [c])) :=
  fSortSet_map (fun c => tx [c]) gC (fun _ => rfl) (fun _ => rfl) (fun a b h => by have := mkS_inj (Sum.inr.inj h); simpa using this) (sameS (fun c => mkS [c]) l) hl
theorem onceB_same {c : Nat} {l : List Nat} (h : ∀ x ∈ l, x = c) (hn : l ≠ []) : isort (ltG gC) (onceB l) = [c] := by
  have hp : (onceB l).Perm [c] := perm_nodup (onceB_nodup l) (by simp) fun x => by
    rw [mem_onceB, List.mem_singleton]
    refine ⟨h x, fun e => ?_⟩
    cases l with
    | nil => exact absurd rfl hn
    | cons y l => rw [e, ← h y List.mem_cons_self]; exact List.mem_cons_self
  exact List.perm_singleton.mp ((isort_perm _).trans hp)
theorem onceB_many {a b : Nat} {l : List Nat} (ha : a ∈ l) (hb : b ∈ l) (hab : a ≠ b) : (isort (ltG gC) (onceB l)).length ≠ 1 := by
  rw [(isort_perm _).length_eq]
  intro h
  obtain ⟨x, hx⟩ := List.length_eq_one_iff.mp h
  have h1 := mem_onceB.mpr ha
  have h2 := mem_onceB.mpr hb
  rw [hx] at h1 h2
  exact hab ((List.mem_singleton.mp h1).trans (List.mem_singleton.mp h2).symm)
end Pv

/-! sorted(text) -/
namespace Pv
open PySem PySem.Spec PyProof.Rows L2
def lettersK (l : List Nat) : List Key := l.map fun c => Sum.inr (mkS [c])
theorem lettersK_same (l : List Nat) : sameK (lettersK l) = true := by
  unfold sameK lettersK
  rw [Bool.or_eq_true]
  exact .inr (List.all_eq_true.mpr fun x hx => by obtain ⟨c, _, rfl⟩ := List.mem_map.mp hx; rfl)
def fSortS (x : PyData) : Option Vr := match x with
  | .str z => if z.length ≤ 1000000 then some (.li ((isort ltK (lettersK (sL z))).map dK)) else none
  | _ => none
section
variable {X : Cx} {K : PySem.W.Frag}
def rSortS : List V → Hp → VK → Prop := fun vs H Q => ∃ z : Str, vs = [V.str z] ∧ z.cps.size ≤ sizeLine ∧ ∀ p, H p = none → Q (.ref p) (upd H p (.lst ((isort ltK (lettersK (sL z))).map kV)))
theorem cr_sortS (hc : X.calm = true) : CallR X (.builtin "sorted") rSortS := by
  intro pins s σ H vs us Q I r h
  obtain ⟨z, rfl, hz, q⟩ := h
  obtain ⟨w', rfl, rw'⟩ := vals1 r
  obtain ⟨t, rfl⟩ := rw'
  refine Calls.call_function_entry PyProof.Rows.kind_sorted PyProof.Rows.plain_sorted PyProof.Rows.entry_sorted (PyProof.Rows.args_sorted1 _) ?_
  unfold Builtin.«sorted»
  refine wpAny_bind (m := checkCount "sorted" 1 1 _) (wpAny_pure ?_)
  refine wpAny_bind (PySem.wpAny_collect_str (A := X.A.in1) (I.ok.hd hc) z t (fun s1 acc hk hg hd ho hi => ?_) hz)
  have rv := itemsOf_vals hi
  have e0 : (sL z).map (fun c => V.str (mkS [c])) = (lettersK (sL z)).map kV := by unfold lettersK; rw [List.map_map]; rfl
  rw [e0] at rv
  obtain ⟨ek, hvk⟩ := vals_keys rv
  have hal : acc.toList.length = z.cps.size := by rw [Array.length_toList, hi.1]
  obtain ⟨hp1, gs1, dr1, tk1, os1⟩ := s1
  cases hg
  cases hd
  cases ho
  have I1 : Inv X pins σ H { s with heap := hp1, toks := tk1 } := I.kept hk
  refine sort_tail (s := { s with heap := hp1, toks := tk1 }) (by rw [hal]; exact hz) hvk (by rw [ek]; exact lettersK_same _) fun s' out c k2 g2 o2 d2 hat2 ho hok hlen => ?_
  have hv := vals_of hok
  rw [ho, ek] at hv
  have hlen2 : ((isort ltK (lettersK (sL z))).map kV).length ≤ sizeLine := by rw [hv.length, hlen, hal]; exact hz
  obtain ⟨hp, gs, dr, tk', os⟩ := s'
  cases g2
  cases o2
  cases d2
  exact ⟨.ref hp1.objs.size, upd H hp1.objs.size (.lst ((isort ltK (lettersK (sL z))).map kV)), I1.laid (t' := tk') k2 (Nat.le_refl _) ⟨hlen2, out, c, hv, hat2⟩, rfl, q _ (I1.hok.fresh (Nat.le_refl _))⟩
theorem c_sortS : ∀ u H Q, rF1 fSortS u H Q → rSortS [u] H Q := by
  intro u H Q ⟨F, d, r, sm, hx, hf, k⟩
  cases d with
  | str z =>
    have hf' : (if z.length ≤ 1000000 then some (Vr.li ((isort ltK (lettersK (sL z))).map dK)) else none) = some r := hf
    by_cases c : z.length ≤ 1000000
    · rw [if_pos c] at hf'
      cases hf'
      have e := hx.sc rfl
      subst e
      refine ⟨z, rfl, ?_, fun q n => k _ q (rpa_of_keys _) n⟩
      have := len_sL z
      have h2 : z.length ≤ sizeLine := by rw [this]; exact lim c
      exact h2
    · rw [if_neg c] at hf'; cases hf'
  | none => cases hf
  | bool _ => cases hf
  | int _ => cases hf
  | list _ => cases hf
  | tuple _ => cases hf
  | dict _ => cases hf
theorem fSortS_tx {l : List Nat} (h : l.length ≤ 1000000) : fSortS (tx l) = some (.li ((isort (ltG gC) l).map fun c => tx [c])) := by
  have e1 : sL (mkS l) = l := by simp [sL, mkS]
  show (if (mkS l).length ≤ 1000000 then some (Vr.li ((isort ltK (lettersK (sL (mkS l)))).map dK)) else none) = _
  rw [len_sL, e1, if_pos h]
  show some (Vr.li ((isort ltK (l.map gC)).map dK)) = _
  rw [isort_map, List.map_map]
  rfl
end
end Pv

/-! a, b = x, y where a name is captured by a comprehension: the pair is made and taken apart -/
namespace Pv
open PySem PySem.Spec PyProof.Rows L2
theorem EvRep.up {fr : Fr} {F : Hp} {σ : L2.St} {H : Hp} {ρ : Rho} {u : V} {v : Ev} {p : Addr} {o : HO} (n : H p = none) (r : EvRep fr F σ H ρ u v) : EvRep fr F σ (upd H p o) ρ u v := by
  cases v with
  | d x => exact r
  | b i => exact r
  | o c =>
    obtain ⟨q, e, nF, nZ, no, rep⟩ := r
    refine ⟨q, e, nF, nZ, no, ?_⟩
    obtain ⟨ho, hq⟩ := rep.there
    have hne : q ≠ p := fun z => by rw [z, n] at hq; cases hq
    have e2 : upd H p o q = H q := by unfold upd; rw [if_neg hne]
    cases c <;> (unfold OcRep at rep ⊢; rwa [e2])
section
variable {X : Cx} {w : WC} {a b : Expr} {pos : Pos}
theorem s_tup2 {i j : Nat} {x y : Str} {ma mb : ME} {px py pt : Pos} {kt k2 pt2} (hc : X.calm = true) (hN : X.N.Nodup) (hi : X.N[i]? = some x) (hj : X.N[j]? = some y)
    (hx : Loc X.env.scope x) (hy : Loc X.env.scope y) (ha : PE X a (tE X.K w ma)) (hb : PE X b (tE X.K w mb))
    (hs1 : starEach [a, b] X.env = (false, eval a X.env) :: starEach [b] X.env := by rfl) (hs2 : starEach [b] X.env = (false, eval b X.env) :: starEach [] X.env := by rfl)
    (hw : swappedStores [.Tuple [.Name x px, .Name y py] kt pt] (.Tuple [a, b] k2 pt2) X.env = pure none := by rfl)
    (hs : swapsWithSole [.Tuple [.Name x px, .Name y py] kt pt] (.Tuple [a, b] k2 pt2) pos.line X.env = pure false := by rfl)
    (hf : X.fn x = true ∨ X.env.scope.names.lookup x = some .local := by first | exact .inl rfl | exact .inr rfl | assumption) (hf2 : X.fn y = true ∨ X.env.scope.names.lookup y = some .local := by first | exact .inl rfl | exact .inr rfl | assumption)
    (hn : (assignEach [.Name x px, .Name y py] X.env).length = 2 := by rfl) (hst : (assignEach [.Name x px, .Name y py] X.env).findIdx? (·.1) = none := by rfl)
    (g1 : (assignEach [Expr.Name x px, .Name y py] X.env).map (·.2) = assign (.Name x px) X.env :: (assignEach [.Name y py] X.env).map (·.2) := by rfl) (g2 : (assignEach [Expr.Name y py] X.env).map (·.2) = assign (.Name y py) X.env :: (assignEach [] X.env).map (·.2) := by rfl)
    (h1 : (assignEach [Expr.Tuple [.Name x px, .Name y py] kt pt] X.env).map (·.2) = [assign (.Tuple [.Name x px, .Name y py] kt pt) X.env] := by rfl) :
    PS X (.Assign [.Tuple [.Name x px, .Name y py] kt pt] (.Tuple [a, b] k2 pt2) pos) (tS X.K w (mPar2 i j ma mb)) := by
  refine wkS (ps_asg (pe_tup (pa_cons ha (pa_cons hb pa_nil hs2) hs1)) (pg_tup hc (pgs_cons (pg_name hN hi hx hf) (pgs_cons (pg_name hN hj hy hf2) pgs_nil g2) g1) hn hst) hs hw h1) fun D σ H ⟨fr, F, ρ, S, h⟩ => ?_
  refine ⟨fr, F, ρ, S, WPs.bd (rel := EvRep) S h fun v1 ρ1 F1 H1 u1 S1 s1 r1 h1 => ?_⟩
  obtain ⟨g, le, Sg, back, prot⟩ := hold2 S1 r1
  refine ⟨g, F1, ρ1, Sg, WPs.bdG (rel := EvRep) h1 le S1.sA fun v2 ρ2 F2 H2 u2 S2 s2 r2 h2 => ?_⟩
  obtain ⟨S2', r1', b2⟩ := back F2 H2 ρ2 S2 s2
  have r2' := b2 _ _ r2
  refine ⟨(by rw [sizeLine_eq]; show 2 ≤ _; decide), fun p n => ⟨p, [u1, u2], rfl, SqT.of (by unfold upd; rw [if_pos rfl]), rfl, u1, [u2], rfl, u2, [], rfl, rfl, ?_⟩⟩
  have S3 := (S2'.newO (p := p) (o := .tup [u1, u2]) n).1
  have q1 := r1'.up (p := p) (o := .tup [u1, u2]) n
  have q2 := r2'.up (p := p) (o := .tup [u1, u2]) n
  by_cases cb : isB i v2 = true
  · rw [if_pos cb] at h2; exact h2.elim
  · rw [if_neg cb] at h2
    cases e1 : asg i v1 ρ2 with
    | none => rw [e1] at h2; exact h2.elim
    | some ρ3 =>
      rw [e1] at h2
      have h3 : WPs X.K w D fr F2 ((asg j v2 ρ3).map .nx) := h2
      cases e2 : asg j v2 ρ3 with
      | none => rw [e2] at h3; exact h3.elim
      | some ρ4 =>
        rw [e2] at h3
        have bad : isB i v2 = false := by simpa using cb
        have Sg3 := asg_ok S3 q1 e1
        have r2'' := asg_ev S3 q1 e1 q2 bad fun c c2 z1 z2 => ev_ne (cc := c2) (prot c z1) (by rw [← z2]; exact r2)
        exact h3 F2 _ _ (asg_ok Sg3 r2'' e2) (Same.refl _)
end
end Pv

/-! sorted(d), d a dict with tuple keys -/
namespace Pv
open PySem PySem.Spec PyProof.Rows L2
section
variable {P : Program} {w : World} {A : Around} {E : Value → Shared → Prop} {s : Shared}
theorem sort_tailKT {vs : List Value} {k : Value → List Key} {x : Bool} {sh : List Bool} {Q : Value → Shared → Prop} (hz : vs.length ≤ sizeLine) (hk : ∀ v ∈ vs, IsKT s.heap v (k v)) (hs : ∀ v ∈ vs, shK (k v) = x :: sh)
    (hQ : ∀ s' (out : List Value) (c : Nat), (∀ b o, s.heap.get? b = some o → s'.heap.get? b = some o) → s'.gens = s.gens → s'.os = s.os → s'.drawn = s.drawn → s'.heap.get? s.heap.objs.size = some (seqObj "list" out.toArray c) →
      SrtO.Srtd (fun v u => ltKL (k v) (k u)) out → out.Perm vs → Q (.ref s.heap.objs.size) s') :
    wpAny (model P w) A (newList vs >>= fun l => holding [l] (call (.builtin "list.sort") [l] []) >>= fun _ => ret l) (fun fin s' => ∃ v, fin = Fin.done (Flow.ret v) ∧ Q v s') E s := by
  refine wpAny_bind (wpAny_newList ?_ hz)
  have at0 : (s.heap.push (seqObj "list" vs.toArray 0)).get? s.heap.objs.size = some (seqObj "list" vs.toArray 0) := Heap.get?_push_size _ rfl
  show wpAny _ _ _ _ _ { s with heap := s.heap.push (seqObj "list" vs.toArray 0) }
  refine wpAny_bind (wpAny_holding (wpAny_call_entry PyProof.Rows.slot_list_sort ⟨_, at0, rfl⟩ PyProof.Rows.entry_list_sort
    (SrtO.list_sort_ord (s := { s with heap := s.heap.push (seqObj "list" vs.toArray 0) }) (swo_map k ltKL_swo) at0 hz (fun h2 => tups_sortable (s := { s with heap := s.heap.push (seqObj "list" vs.toArray 0) }) (by omega) (fun v hm => (hk v hm).keeps fun b o e _ => Heap.get?_push_of_some _ e) hs fun o e => ?_) fun out h1 h2 => ⟨_, rfl, ?_⟩) (PyProof.Rows.args_list_sort _)))
  · have e' : some o = some (seqObj "list" vs.toArray 0) := e.symm.trans at0
    cases e'
    intro c
    exact absurd (Value.type.inj c) (by decide)
  · obtain ⟨c, hc⟩ := PyProof.Rows.sortedHeap_at (vs := vs) (out := out.toArray) at0
    refine wpAny_pure ⟨_, rfl, hQ _ out c (fun b o q => ?_) rfl rfl rfl hc h1 h2.perm⟩
    have hb : b < s.heap.objs.size := Heap.lt_size q
    show (sortedHeap (s.heap.push (seqObj "list" vs.toArray 0)) s.heap.objs.size vs out.toArray).get? b = some o
    rw [PyProof.Rows.sortedHeap_old (Nat.ne_of_lt hb) (by rw [PyProof.Rows.size_push']; exact Nat.lt_succ_of_lt hb)]
    exact Heap.get?_push_of_some _ q
end
section
variable {X : Cx}
def rSortDT : List V → Hp → VK → Prop := fun vs H Q => ∃ (a : Addr) (kvs : List (List Key × V)) (x : Bool) (sh : List Bool), vs = [V.ref a] ∧ Rd H a (.dT kvs) ∧ (∀ p ∈ kvs, shK p.1 = x :: sh) ∧
  ∀ (ys : List V) p, (∀ y ∈ ys, ∃ t, y = V.ref t ∧ H t = some (.tup ((kOf H y).map kV))) → ys.map (kOf H) = isort ltKL (kvs.map (·.1)) → H p = none → Q (.ref p) (upd H p (.lst ys))
theorem cr_sortDT (hcalm : X.calm = true) : CallR X (.builtin "sorted") rSortDT := by
  intro pins s σ H vs us Q I r h
  obtain ⟨a, kvs, x, sh, rfl, hd, hsh, q⟩ := h
  rw [Vals.ref1 r]
  obtain ⟨z, hlo, ks, pr, o, es, ep, ho, hx, hdt, he, hn⟩ := (show ObjOk X.prog X.w H s.heap a (.dT kvs) from hd.ok I.hok)
  have l1 : es.size = ks.length := size_of_entries he
  have l2 : kvs.length = ks.length := Paired.length pr
  have hkeys := isKeys_of pr
  refine Calls.call_function_entry PyProof.Rows.kind_sorted PyProof.Rows.plain_sorted PyProof.Rows.entry_sorted (PyProof.Rows.args_sorted1 _) ?_
  unfold Builtin.«sorted»
  refine wpAny_bind (m := checkCount "sorted" 1 1 _) (wpAny_pure ?_)
  refine wpAny_bind (PySem.W.kdu_collect (A := X.A.in1) (kdl_raw hlo hx hdt) (I.ok.hd hcalm) ho (by omega) fun h' tk acc hk it => ?_)
  have ea : acc.toList = ks.map fun x => Value.ref x.2.1 := by
    have hl : acc.toList.length = ks.length := by rw [Array.length_toList, it.1]; exact l1
    apply List.ext_getElem?
    intro j
    rw [List.getElem?_map]
    cases hj : acc.toList[j]? with
    | none =>
      have h1 := List.getElem?_eq_none_iff.mp hj
      rw [List.getElem?_eq_none (by omega)]
      all_goals rfl
    | some v =>
      obtain ⟨en, hen, hv⟩ := it.2 j v (by rw [← Array.getElem?_toList]; exact hj)
      have qe := entry_at he j
      rw [hen] at qe
      cases hb : ks[j]? with
      | none =>
        rw [hb] at qe
        exact nomatch (show some en = none from qe)
      | some b =>
        rw [hb] at qe
        have e2 : en = entryOfKey (tupleKind (mixKind X.prog X.w)) b := Option.some.inj qe
        rw [hv, e2]
        all_goals rfl
  have I1 : Inv X pins σ H { s with heap := h', toks := tk } := I.kept hk
  -- the keys
  have hkey : ∀ b, b ∈ ks.map (fun x => x.2.1) → ∃ p ∈ kvs, H b = some (.tup (p.1.map kV)) := fun b hb => by
    obtain ⟨j, hj⟩ := List.getElem?_of_mem hb
    obtain ⟨p, hp, e⟩ := paired_get hkeys hj
    exact ⟨p, List.mem_of_getElem? hp, e⟩
  have kat : ∀ b ks', H b = some (.tup (List.map kV ks')) → kOf H (.ref b) = ks' := fun b ks' e => by
    show (match H b with
      | some (.tup vs) => vs.map vK
      | _ => []) = ks'
    rw [e]; exact vK_map ks'
  have eb : acc.toList = (ks.map fun x => x.2.1).map Value.ref := by rw [ea, List.map_map]; all_goals rfl
  have hv : ∀ v ∈ acc.toList, ∃ b, v = Value.ref b ∧ b ∈ ks.map (fun x => x.2.1) := fun v hv => by
    rw [eb] at hv
    obtain ⟨b, hb, rfl⟩ := List.mem_map.mp hv
    exact ⟨b, rfl, hb⟩
  have hvk : ∀ v ∈ acc.toList, IsKT ({ s with heap := h', toks := tk } : Shared).heap v (kOf H (backV v)) ∧ shK (kOf H (backV v)) = x :: sh := fun v hm => by
    obtain ⟨b, rfl, hb⟩ := hv v hm
    obtain ⟨p, hp, e⟩ := hkey b hb
    obtain ⟨_, its2, r2, ht2⟩ := I1.hok _ _ e
    obtain ⟨z1, z2⟩ := vals_keys r2
    have ek : kOf H (backV (Value.ref b)) = p.1 := kat b _ e
    rw [ek]
    exact ⟨⟨b, its2.toArray, rfl, ht2, z1, z2⟩, hsh p hp⟩
  have hal : acc.toList.length = ks.length := by rw [ea, List.length_map]
  refine sort_tailKT (s := { s with heap := h', toks := tk }) (k := fun v => kOf H (backV v)) (by rw [hal]; omega) (fun v hm => (hvk v hm).1) (fun v hm => (hvk v hm).2) fun s' out c k2 g2 o2 d2 hat2 hsr hpm => ?_
  have h3 : ∀ u ∈ out, ∃ a, u = Value.ref a := fun u hu => by
    obtain ⟨b, e, _⟩ := hv u (hpm.mem_iff.mp hu)
    exact ⟨b, e⟩
  have hlen2 : (out.map backV).length ≤ sizeLine := by rw [List.length_map, hpm.length_eq, hal]; omega
  have hmap : (acc.toList.map fun v => kOf H (backV v)) = kvs.map (·.1) := by
    have gen : ∀ {l : List (List Key × V)} {bs : List Addr}, IsKeys H l bs → (bs.map Value.ref).map (fun v => kOf H (backV v)) = l.map (·.1) := fun {l bs} h => by
      unfold IsKeys at h
      induction h with
      | nil => rfl
      | cons h _ ih => rw [List.map_cons, List.map_cons, List.map_cons, ih, show kOf H (backV (Value.ref _)) = _ from kat _ _ h]
    rw [eb]
    exact gen hkeys
  have hys : ∀ y ∈ out.map backV, ∃ t, y = V.ref t ∧ H t = some (.tup ((kOf H y).map kV)) := fun y hy => by
    obtain ⟨v, hvm, rfl⟩ := List.mem_map.mp hy
    obtain ⟨b, rfl, hb⟩ := hv v (hpm.mem_iff.mp hvm)
    obtain ⟨p, hp, e⟩ := hkey b hb
    refine ⟨b, rfl, ?_⟩
    have ek : kOf H (backV (Value.ref b)) = p.1 := kat b _ e
    rw [ek]; exact e
  have hso : (out.map backV).map (kOf H) = isort ltKL (kvs.map (·.1)) := by
    rw [List.map_map]
    refine isort_eq ltKL_swo ltKL_lin ?_ (List.pairwise_map.mpr hsr)
    rw [← hmap]
    exact hpm.map _
  obtain ⟨hp, gs, dr, tk', os⟩ := s'
  cases g2
  cases o2
  cases d2
  exact ⟨.ref h'.objs.size, upd H h'.objs.size (.lst (out.map backV)), I1.laid (t' := tk') k2 (Nat.le_refl _) ⟨hlen2, out, c, vals_back h3, hat2⟩, rfl, q _ _ hys hso (I1.hok.fresh (Nat.le_refl _))⟩
end
/-! .. by mirrors -/
def mSortDT (i : Nat) : ME := fun ρ => match ρ[i]? with
  | some (.o (.t kvs)) => if sameSh (kvs.map (·.1)) = true then some (.ok (.o (.l ((isort ltKL (kvs.map (·.1))).map dKL))) ρ) else none
  | _ => none
section
variable {X : Cx} {w : WC} {K : PySem.W.Frag} {σ : L2.St} {H : Hp} {fr : Fr} {F : Hp} {ρ : Rho} {pos : Pos}
theorem rpkT_keys {F : Hp} {ks : List (List Key × V)} {kvs : List (List Key × PyData)} (r : RpK F ks kvs) : ks.map (·.1) = kvs.map (·.1) := by
  induction r with
  | nil => rfl
  | cons h _ ih => rw [List.map_cons, List.map_cons, ih, h.1]
/-- tuples that stand become data -/
theorem SR.addTups (S : SR K fr F σ H ρ) : ∀ ys : List V, (∀ y ∈ ys, ∃ t vs, y = V.ref t ∧ H t = some (.tup vs)) → ∃ F', Same F F' ∧ SR K fr F' σ H ρ ∧ ∀ y ∈ ys, ∃ t, y = V.ref t ∧ F' t = H t
  | [], _ => ⟨F, Same.refl _, S, fun y h => by cases h⟩
  | y :: ys, h => by
    obtain ⟨F1, s1, S1, h1⟩ := S.addTups ys fun z hz => h z (List.mem_cons_of_mem _ hz)
    obtain ⟨t, vs, e, ht⟩ := h y List.mem_cons_self
    cases c : F1 t with
    | some o =>
      refine ⟨F1, s1, S1, fun z hz => ?_⟩
      rcases List.mem_cons.mp hz with q | hz
      · exact ⟨t, q.trans e, by rw [c, S1.sF _ _ c]⟩
      · exact h1 z hz
    | none =>
      have nZ : fr.Z t = none := by
        cases q : fr.Z t with
        | none => rfl
        | some o =>
          have e2 := S1.sZ _ _ q
          rw [ht] at e2
          cases e2
          exact absurd q (fr.nt t vs)
      obtain ⟨S2, s2⟩ := S1.toD ht c nZ fun i w z => S1.ownNT w z vs ht
      refine ⟨_, s1.trans s2, S2, fun z hz => ?_⟩
      rcases List.mem_cons.mp hz with q | hz
      · exact ⟨t, q.trans e, by rw [upd_same, ht]⟩
      · obtain ⟨t', e', h'⟩ := h1 z hz
        obtain ⟨t2, vs2, e3, ht2⟩ := h z (List.mem_cons_of_mem _ hz)
        rw [e'] at e3
        cases e3
        rw [ht2] at h'
        exact ⟨t', e', by rw [s2 _ _ h', ht2]⟩
theorem sortDT_of {i : Nat} {Q : VK} (h : tE K w (mSortDT i) σ H Q) : tCB rSortDT (tCons (tVar i) tNil) σ H Q := by
  obtain ⟨fr, F, ρ, S, h⟩ := h
  have h' : WPg K w EvRep Q fr F σ (match ρ[i]? with
  | some (.o (.t kvs)) => if sameSh (kvs.map (·.1)) = true then some (.ok (.o (.l ((isort ltKL (kvs.map (·.1))).map dKL))) ρ) else none
  | _ => none) := h
  cases e : ρ[i]? with
  | none => rw [e] at h'; exact h'.elim
  | some s =>
    rw [e] at h'
    have q := S.at e
    match s, q, h' with
    | .no, q, h' => exact h'.elim
    | .d x, q, h' => exact h'.elim
    | .r c, q, h' => exact h'.elim
    | .scr c, q, h' => exact h'.elim
    | .o (.l _), q, h' => exact h'.elim
    | .o (.k _), q, h' => exact h'.elim
    | .o (.t kvs), q, h' =>
      obtain ⟨p, a, _, _, ks, hp, rk⟩ := q
      have ek := rpkT_keys rk
      by_cases c : sameSh (kvs.map (·.1)) = true
      · have h2 : WPg K w EvRep Q fr F σ (some (.ok (.o (.l ((isort ltKL (kvs.map (·.1))).map dKL))) ρ)) := by
          have h3 : WPg K w EvRep Q fr F σ (if sameSh (kvs.map (·.1)) = true then some (.ok (.o (.l ((isort ltKL (kvs.map (·.1))).map dKL))) ρ) else none) := h'
          rw [if_pos c] at h3
          exact h3
        obtain ⟨x, sh, hsh⟩ := sameSh_of c
        refine ⟨_, a, p, ks, x, sh, rfl, Rd.of hp, fun y hy => hsh _ (by rw [← ek]; exact List.mem_map_of_mem hy), fun ys q hys hso n => ?_⟩
        obtain ⟨F', sm, S', hF⟩ := S.addTups ys fun y hy => by
          obtain ⟨t, e, ht⟩ := hys y hy
          exact ⟨t, _, e, ht⟩
        have kk : ∀ y ∈ ys, kOf F' y = kOf H y := fun y hy => by
          obtain ⟨t, e, ht⟩ := hF y hy
          subst e
          show (match F' t with
            | some (.tup vs) => vs.map vK
            | _ => []) = (match H t with
            | some (.tup vs) => vs.map vK
            | _ => [])
          rw [ht]
        have hys' : ∀ y ∈ ys, ∃ t, y = .ref t ∧ F' t = some (.tup ((kOf F' y).map kV)) := fun y hy => by
          obtain ⟨t, e, ht⟩ := hF y hy
          obtain ⟨t2, e2, ht2⟩ := hys y hy
          rw [e] at e2
          cases e2
          exact ⟨t, e, by rw [kk y hy, ht, ht2]⟩
        have hso' : ys.map (kOf F') = isort ltKL (kvs.map (·.1)) := by
          rw [List.map_congr_left kk, hso, ek]
        have wv := WVr_of (w := w) (Q := Q) (r := .li ((isort ltKL (kvs.map fun z : List Key × PyData => z.1)).map dKL)) S' (fun F'' H' b S'' sm2 rel => h2 F'' H' b S'' (sm.trans sm2) rel)
        have ra := rpa_tups hys'
        rw [hso'] at ra
        exact wv _ q ra n
      · have h3 : WPg K w EvRep Q fr F σ (if sameSh (kvs.map (·.1)) = true then some (.ok (.o (.l ((isort ltKL (kvs.map (·.1))).map dKL))) ρ) else none) := h'
        rw [if_neg c] at h3
        exact h3.elim
theorem e_sortDT {i : Nat} {y : Str} {p q : Pos} (hc : X.calm = true) (hN : X.N[i]? = some y) (hv : Vis X.env.scope y) (hg : Gl X "sorted") (hm : X.mg "sorted" = none) (hb : bootBuiltins "sorted" = some (.builtin "sorted")) (hd : (y == ("__debug__" : Str)) = false := by decide) (hcd : (y == ("__classdict__" : Str)) = false := by decide)
    (hs : starEach (.Name y q :: []) X.env = (false, eval (.Name y q) X.env) :: starEach [] X.env := by rfl) (hpl : (backTo pos (starEach [] X.env)).any (·.1) = false := by rfl) :
    PE X (.Call (.Name "sorted" p) [.Name y q] [] pos) (tE X.K w (mSortDT i)) :=
  wkE (pe_callB (cr_sortDT hc) hg hm hb (pa_cons (pe_var hN hv hd hcd) pa_nil hs) (by decide) (by decide) hs hpl) fun _ _ _ h => sortDT_of h
end
@[simp] theorem mSortDT_ap {ρ : Rho} {i : Nat} : mSortDT i ρ = match ρ[i]? with
  | some (.o (.t kvs)) => if sameSh (kvs.map (·.1)) = true then some (.ok (.o (.l ((isort ltKL (kvs.map (·.1))).map dKL))) ρ) else none
  | _ => none := rfl
end Pv

/-! {k: v}: one pair, the key an int or a text, or a tuple of them -/
namespace Pv
open PySem PySem.Spec PyProof.Rows L2
theorem SR.wr {K : PySem.W.Frag} {fr : Fr} {F : Hp} {σ : L2.St} {H : Hp} {ρ : Rho} (S : SR K fr F σ H ρ) {p : Addr} {o ho : HO} (e0 : H p = some ho) (h1 : ∀ ps, ho ≠ .tbl ps) (h2 : ∀ f, ho ≠ .ext f) (nF : F p = none) (nZ : fr.Z p = none) (no : ∀ i, Own ρ i → σ[i]? ≠ some (some (.ref p))) : SR K fr F σ (upd H p o) ρ := by
  refine ⟨S.len, fun b u e => ?_, fun b u e => ?_, S.dj, S.sA, fun i s e => ?_, S.inj, S.x.put e0 h1 h2⟩
  · rw [upd_ne (ne_of_none e nF)]; exact S.sF _ _ e
  · rw [upd_ne (ne_of_none e nZ)]; exact S.sZ _ _ e
  · have h := S.sl i s e
    cases s with
    | no => trivial
    | d x => exact h
    | o c =>
      obtain ⟨q, a, b, d, r⟩ := h
      have hq : q ≠ p := fun z => no i ⟨c, .inl e⟩ (by rw [← z]; exact a)
      exact ⟨q, a, b, d, r.at (Same.refl _) fun o z => by rw [upd_ne hq]; exact z⟩
    | r c =>
      obtain ⟨q, z, a, b, d, r⟩ := h
      have hq : q ≠ p := fun z => no i ⟨c, .inr e⟩ (by rw [← z]; exact a)
      exact ⟨q, z, a, b, d, r.at (Same.refl _) fun o z => by rw [upd_ne hq]; exact z⟩
    | scr ns => exact h
def dispT : List PyData → Rho → Option (Rg Ev)
  | [x, y], ρ => (keysP x).map fun k => .ok (.o (.t [(k, y)])) ρ
  | _, _ => none
def dispK : List PyData → Rho → Option (Rg Ev)
  | [x, y], ρ => (keyP x).map fun k => .ok (.o (.k [(k, y)])) ρ
  | _, _ => none
def mDispT (ms : MI) : ME := fun ρ => bd (ms ρ) dispT
def mDispK (ms : MI) : ME := fun ρ => bd (ms ρ) dispK
section
variable {X : Cx} {w : WC} {K : PySem.W.Frag} {σ : L2.St} {H : Hp} {pos : Pos} {ka va : Expr}
/-- {k: v}, the key a tuple -/
def tDisp1T (t : TA) : TE := fun σ H Q => ∀ p, H p = none → t σ (upd H p (.dT [])) fun vs H2 => ∃ b v k, vs = [V.ref b, v] ∧ H2 p = some (.dT []) ∧ H2 b = some (.tup (List.map kV k)) ∧ Q (.ref p) (upd H2 p (.dT [(k, v)]))
def tDisp1K (t : TA) : TE := fun σ H Q => ∀ p, H p = none → t σ (upd H p (.dK [])) fun vs H2 => ∃ v k, vs = [kV k, v] ∧ H2 p = some (.dK []) ∧ Q (.ref p) (upd H2 p (.dK [(k, v)]))
theorem pe_disp1T {tk tv : TE} (hu : X.A.units + 1 < cLine) (hk : PE X ka tk) (hv : PE X va tv) : PE X (.Dict [some ka] [va] pos) (tDisp1T (tCons tk (tCons tv tNil))) := by
  refine ⟨fun pins s σ H Q I q => ?_⟩
  have hn := I.hok.fresh (Nat.le_refl s.heap.objs.size)
  have I1 := I.laid (a := s.heap.objs.size) (o := .dT []) (h' := s.heap.push { cls := .type "dict", data := .dict #[] }) (t' := s.toks) (fun _ _ q => Heap.get?_push_of_some _ q) (Nat.le_refl _) (dt_empty s.heap I.big)
  have q1 := q _ hn
  have q2 : tPairs [(tk, tv)] σ (upd H s.heap.objs.size (.dT [])) (fun ps H2 => (fun vs H2 => ∃ b v k, vs = [V.ref b, v] ∧ H2 s.heap.objs.size = some (.dT []) ∧ H2 b = some (.tup (List.map kV k)) ∧ Q (.ref s.heap.objs.size) (upd H2 s.heap.objs.size (.dT [(k, v)]))) (match ps with
    | [(x, y)] => [x, y]
    | _ => []) H2) := q1
  refine wpAny_Dict_any rfl rfl (by simp) (by show 1 ≤ 15; decide) (thn ((pps_cons (pos := pos) hk hv (pps_nil (X := X) (pos := pos))).run pins _ σ _ _ I1 q2) fun ws s2 ⟨ps, H2, I2, rel, q3⟩ => ?_)
  obtain ⟨b, v, k, ep, e1, e2, q3⟩ := q3
  match ps, ep, rel with
  | [(x, y)], ep, .cons (b := uw) r0 .nil =>
    obtain ⟨rx, ry⟩ := r0
    cases ep
    obtain ⟨u, r⟩ := uw
    cases (show u = Value.ref b from rx)
    unfold storeAll
    rw [List.forIn_cons]
    obtain ⟨z, hd, xs, rel, dd⟩ := dt_of I2.hok e1
    have hz : xs.length ≤ sizeLine := by rw [← Paired.length rel]; exact z
    have hl : (putK ([] : List (List Key × V)) k v).length ≤ sizeLine := by rw [sizeLine_eq]; show 1 ≤ _; decide
    refine wpAny_bind (wpAny_bind (wpAny_dictSet_heap (hsz := hz) (knd := tupleKind (mixKind X.prog X.w)) (by show X.A.units < cLine; omega) (L2.key_of I2.hok e2) dd (fun h' dd' hs => wpAny_pure ?_)))
    show wpAny (model X.prog X.w) X.A (forIn ([] : List (Value × Value)) PUnit.unit _) _ _ _
    rw [List.forIn_nil]
    refine wpAny_pure ?_
    obtain ⟨qo, es, ep, hq, h2, h3, h4, _, h5⟩ := dd'
    refine ⟨.ref s.heap.objs.size, _, d_write I2 (ob := .dT (putK [] k v)) (by rw [e1]; exact True.intro) hs ⟨qo, hq⟩ ⟨hl, hd, _, (rel.put k e2 ry).keeps fun c ys ec => ?_, qo, es, ep, hq, h2, h3, h4, h5⟩, rfl, q3⟩
    rw [upd_ne (ne_of ec e1 (fun z => nomatch z))]
    exact ec
  | [], ep, _ => cases ep
  | _ :: _ :: _, ep, _ => cases ep
theorem pe_disp1K {tk tv : TE} (hk : PE X ka tk) (hv : PE X va tv) : PE X (.Dict [some ka] [va] pos) (tDisp1K (tCons tk (tCons tv tNil))) := by
  refine ⟨fun pins s σ H Q I q => ?_⟩
  have hn := I.hok.fresh (Nat.le_refl s.heap.objs.size)
  have I1 := I.laid (a := s.heap.objs.size) (o := .dK []) (h' := s.heap.push { cls := .type "dict", data := .dict #[] }) (t' := s.toks) (fun _ _ q => Heap.get?_push_of_some _ q) (Nat.le_refl _) (dk_empty s.heap I.big)
  have q1 := q _ hn
  have q2 : tPairs [(tk, tv)] σ (upd H s.heap.objs.size (.dK [])) (fun ps H2 => (fun vs H2 => ∃ v k, vs = [kV k, v] ∧ H2 s.heap.objs.size = some (.dK []) ∧ Q (.ref s.heap.objs.size) (upd H2 s.heap.objs.size (.dK [(k, v)]))) (match ps with
    | [(x, y)] => [x, y]
    | _ => []) H2) := q1
  refine wpAny_Dict_walk (knd := mixKind X.prog X.w) rfl rfl (by simp) (by show 1 ≤ 15; decide) (thn ((pps_cons (pos := pos) hk hv (pps_nil (X := X) (pos := pos))).run pins _ σ _ _ I1 q2) fun ws s2 ⟨ps, H2, I2, rel, q3⟩ => ?_)
  obtain ⟨v, k, ep, e, q3⟩ := q3
  have ep2 : ps = [(k, v)].map (fun kv : Key × V => (kV kv.1, kv.2)) := by
    match ps, ep with
    | [(x, y)], ep => cases ep; rfl
    | [], ep => cases ep
    | _ :: _ :: _, ep => cases ep
  subst ep2
  obtain ⟨rs, c, rk⟩ := carries_of (P := X.prog) (w := X.w) (kvs := [(k, v)]) rel
  obtain ⟨z, hd, vs0, r0, dd⟩ := dk_of I2.hok e
  cases r0
  refine ⟨rs, c, dd, fun h' dd' hs => ⟨.ref s.heap.objs.size, _, ?_, rfl, q3⟩⟩
  have hz : (mergeK [] [(k, v)]).length ≤ sizeLine := by
    have h1 := length_mergeK [(k, v)] []
    rw [List.length_nil] at h1
    rw [sizeLine_eq]
    have : [(k, v)].length = 1 := rfl
    omega
  have he : ∃ q, h'.get? s.heap.objs.size = some q := let ⟨q, _, _, hq, _⟩ := dd'; ⟨q, hq⟩
  exact d_write I2 (by rw [e]; exact True.intro) hs he (dk_new hz hd (rk.merge .nil) dd')
/-! .. by mirrors -/
theorem dispT_of {ms : MI} {Q : VK} (h : tE K w (mDispT ms) σ H Q) : tDisp1T (tA K w ms) σ H Q := by
  obtain ⟨fr, F, ρ, S, h⟩ := h
  intro p n
  obtain ⟨S1, nF, nZ, no⟩ := S.newO (o := .dT []) n
  have e : EvRep fr F σ (upd H p (.dT [])) ρ (.ref p) (.o (.t [])) := ⟨p, rfl, nF, nZ, no, [], upd_same, .nil⟩
  obtain ⟨g, le, Sg, back⟩ := hold S1 e
  refine ⟨g, F, ρ, Sg, ?_⟩
  have h' : WPg K w EvRep Q fr F σ (bd (ms ρ) dispT) := h
  cases em : ms ρ with
  | none => rw [em] at h'; exact h'.elim
  | some r =>
    rw [em] at h'
    cases r with
    | er x ρ1 => exact fun F' H' c d S' sm hx => h' F' H' c d (back F' H' ρ1 S' sm).1 sm hx
    | ok xs ρ1 =>
      intro F' H' vs S' sm rel
      obtain ⟨S2, e2, _⟩ := back F' H' ρ1 S' sm
      obtain ⟨p', ep, nF2, nZ2, no2, ks, hp, rk⟩ := e2
      cases ep
      cases rk
      have h2 : WPg K w EvRep Q fr F σ (dispT xs ρ1) := h'
      have rel' : RpA F' vs xs := rel
      match vs, xs, rel', h2 with
      | [u, v], [x, y], .cons rx (.cons ry .nil), h2 =>
        have h3 : WPg K w EvRep Q fr F σ ((keysP x).map fun k => .ok (.o (.t [(k, y)])) ρ1) := h2
        cases ek : keysP x with
        | none => rw [ek] at h3; exact h3.elim
        | some k =>
          rw [ek] at h3
          obtain ⟨b, eb, hb⟩ := keysP_rp ek rx
          subst eb
          refine ⟨b, v, k, rfl, hp, S2.sF _ _ hb, ?_⟩
          exact h3 F' _ _ (S2.wr hp (fun _ z => nomatch z) (fun _ z => nomatch z) nF2 nZ2 no2) sm ⟨p, rfl, nF2, nZ2, no2, [(k, v)], upd_same, .cons ⟨rfl, ry⟩ .nil⟩
      | [], [], _, h2 => exact h2.elim
      | [_], [_], _, h2 => exact h2.elim
      | _ :: _ :: _ :: _, _ :: _ :: _ :: _, _, h2 => exact h2.elim
theorem consA_of {me : ME} {ms : MI} {Q : List V → Hp → Prop} (h : tA K w (mCons me ms) σ H Q) : tCons (tE K w me) (tA K w ms) σ H Q := by
  refine frzM ?_
  refine bdM (rel := relX) h fun fr F ρ x H1 u S r h1 => ?_
  refine ⟨fr, F, ρ, S, h1.bd fun xs ρ2 F2 H2 us S2 s2 r2 h2 => ?_⟩
  exact h2 F2 H2 _ S2 (Same.refl _) (.cons (Rp.mono s2 _ _ r) r2)
theorem nilA_of {Q : List V → Hp → Prop} (h : tA K w mNil σ H Q) : tNil σ H Q := by
  obtain ⟨fr, F, ρ, S, h⟩ := h
  exact h F H [] S (Same.refl _) .nil
theorem tM_imp {α β : Type} {rel : RelT α β} {m : Rho → Option (Rg α)} {Q Q' : β → Hp → Prop} (h : tM K w rel m σ H Q) (k : ∀ b H', Q b H' → Q' b H') : tM K w rel m σ H Q' := by
  obtain ⟨fr, F, ρ, S, h⟩ := h
  refine ⟨fr, F, ρ, S, ?_⟩
  cases e : m ρ with
  | none => rw [e] at h; exact h.elim
  | some r =>
    rw [e] at h
    cases r with
    | er x ρ1 => exact h
    | ok a ρ1 => exact fun F' H' b S' sm r => k _ _ (h F' H' b S' sm r)
theorem tA2_of {mk mv : ME} {Q : List V → Hp → Prop} (h : tA K w (mCons mk (mCons mv mNil)) σ H Q) : tCons (tE K w mk) (tCons (tE K w mv) tNil) σ H Q :=
  tM_imp (consA_of h) fun _ _ h1 => tM_imp (consA_of h1) fun _ _ h2 => nilA_of h2
theorem e_dispT {mk mv : ME} (hu : X.A.units + 1 < cLine) (hk : PE X ka (tE X.K w mk)) (hv : PE X va (tE X.K w mv)) : PE X (.Dict [some ka] [va] pos) (tE X.K w (mDispT (mCons mk (mCons mv mNil)))) :=
  wkE (pe_disp1T hu hk hv) fun σ H Q h p n => tA2_of (dispT_of h p n)
theorem dispK_of {ms : MI} {Q : VK} (h : tE K w (mDispK ms) σ H Q) : tDisp1K (tA K w ms) σ H Q := by
  obtain ⟨fr, F, ρ, S, h⟩ := h
  intro p n
  obtain ⟨S1, nF, nZ, no⟩ := S.newO (o := .dK []) n
  have e : EvRep fr F σ (upd H p (.dK [])) ρ (.ref p) (.o (.k [])) := ⟨p, rfl, nF, nZ, no, [], upd_same, .nil⟩
  obtain ⟨g, le, Sg, back⟩ := hold S1 e
  refine ⟨g, F, ρ, Sg, ?_⟩
  have h' : WPg K w EvRep Q fr F σ (bd (ms ρ) dispK) := h
  cases em : ms ρ with
  | none => rw [em] at h'; exact h'.elim
  | some r =>
    rw [em] at h'
    cases r with
    | er x ρ1 => exact fun F' H' c d S' sm hx => h' F' H' c d (back F' H' ρ1 S' sm).1 sm hx
    | ok xs ρ1 =>
      intro F' H' vs S' sm rel
      obtain ⟨S2, e2, _⟩ := back F' H' ρ1 S' sm
      obtain ⟨p', ep, nF2, nZ2, no2, ks, hp, rk⟩ := e2
      cases ep
      cases rk
      have h2 : WPg K w EvRep Q fr F σ (dispK xs ρ1) := h'
      have rel' : RpA F' vs xs := rel
      match vs, xs, rel', h2 with
      | [u, v], [x, y], .cons rx (.cons ry .nil), h2 =>
        have h3 : WPg K w EvRep Q fr F σ ((keyP x).map fun k => .ok (.o (.k [(k, y)])) ρ1) := h2
        cases ek : keyP x with
        | none => rw [ek] at h3; exact h3.elim
        | some k =>
          rw [ek] at h3
          have eu := key_of (H := H') (.inl rx) ek
          subst eu
          refine ⟨v, k, rfl, hp, ?_⟩
          exact h3 F' _ _ (S2.wr hp (fun _ z => nomatch z) (fun _ z => nomatch z) nF2 nZ2 no2) sm ⟨p, rfl, nF2, nZ2, no2, [(k, v)], upd_same, .cons ⟨rfl, ry⟩ .nil⟩
      | [], [], _, h2 => exact h2.elim
      | [_], [_], _, h2 => exact h2.elim
      | _ :: _ :: _ :: _, _ :: _ :: _ :: _, _, h2 => exact h2.elim
theorem e_dispK {mk mv : ME} (hk : PE X ka (tE X.K w mk)) (hv : PE X va (tE X.K w mv)) : PE X (.Dict [some ka] [va] pos) (tE X.K w (mDispK (mCons mk (mCons mv mNil)))) :=
  wkE (pe_disp1K hk hv) fun σ H Q h p n => tA2_of (dispK_of h p n)
end
@[simp] theorem mDispT_ap {ms : MI} {ρ : Rho} : mDispT ms ρ = bd (ms ρ) dispT := rfl
@[simp] theorem mDispK_ap {ms : MI} {ρ : Rho} : mDispK ms ρ = bd (ms ρ) dispK := rfl
@[simp] theorem dispT_ap {x y : PyData} {ρ : Rho} : dispT [x, y] ρ = (keysP x).map fun k => .ok (.o (.t [(k, y)])) ρ := rfl
@[simp] theorem dispK_ap {x y : PyData} {ρ : Rho} : dispK [x, y] ρ = (keyP x).map fun k => .ok (.o (.k [(k, y)])) ρ := rfl
end Pv

/-! dicts of counts, in plain lists -/
namespace Pv
open PySem PySem.Spec PyProof.Rows L2
section
variable {α : Type} [DecidableEq α]
def hasD (d : List (α × Nat)) (k : α) : Bool := d.any fun q => decide (q.1 = k)
def valD (d : List (α × Nat)) (k : α) : Nat := ((d.find? fun q => decide (q.1 = k)).map (·.2)).getD 0
def setD (d : List (α × Nat)) (k : α) (n : Nat) : List (α × Nat) := if hasD d k = true then d.map (fun q => if q.1 = k then (q.1, n) else q) else d ++ [(k, n)]
def addD (d : List (α × Nat)) (k : α) (v : Nat) : List (α × Nat) := setD d k (valD d k + v)
def keysD (d : List (α × Nat)) : List α := d.map (·.1)
theorem hasD_iff {d : List (α × Nat)} {k : α} : hasD d k = true ↔ k ∈ keysD d := by
  unfold hasD keysD
  rw [List.any_eq_true, List.mem_map]
  exact ⟨fun ⟨q, h, e⟩ => ⟨q, h, of_decide_eq_true e⟩, fun ⟨q, h, e⟩ => ⟨q, h, decide_eq_true e⟩⟩
theorem keysD_setD (d : List (α × Nat)) (k : α) (n : Nat) : keysD (setD d k n) = if hasD d k = true then keysD d else keysD d ++ [k] := by
  unfold setD
  by_cases h : hasD d k = true
  · rw [if_pos h, if_pos h]
    unfold keysD
    rw [List.map_map]
    exact List.map_congr_left fun q _ => by
      show (if q.1 = k then (q.1, n) else q).1 = q.1
      split <;> rfl
  · rw [if_neg h, if_neg h]
    unfold keysD
    rw [List.map_append]; rfl
theorem mem_setD {d : List (α × Nat)} {k j : α} {n : Nat} : j ∈ keysD (setD d k n) ↔ j = k ∨ j ∈ keysD d := by
  rw [keysD_setD]
  by_cases h : hasD d k = true
  · rw [if_pos h]
    exact ⟨.inr, fun q => q.elim (fun e => e ▸ hasD_iff.mp h) id⟩
  · rw [if_neg h, List.mem_append, List.mem_singleton]
    exact Or.comm
theorem nodup_setD {d : List (α × Nat)} {k : α} {n : Nat} (h : (keysD d).Nodup) : (keysD (setD d k n)).Nodup := by
  rw [keysD_setD]
  by_cases q : hasD d k = true
  · rw [if_pos q]; exact h
  · rw [if_neg q]
    refine List.nodup_append.mpr ⟨h, by simp, fun a ha b hb => ?_⟩
    rw [List.mem_singleton.mp hb]
    intro e
    subst e
    exact q (hasD_iff.mpr ha)
theorem len_setD (d : List (α × Nat)) (k : α) (n : Nat) : (setD d k n).length ≤ d.length + 1 := by
  unfold setD
  split
  · rw [List.length_map]; omega
  · rw [List.length_append]; exact Nat.le_refl _
theorem valD_cons (q : α × Nat) (d : List (α × Nat)) (j : α) : valD (q :: d) j = if q.1 = j then q.2 else valD d j := by
  unfold valD
  by_cases h : q.1 = j
  · rw [if_pos h, List.find?_cons_of_pos (by simpa using h)]; rfl
  · rw [if_neg h, List.find?_cons_of_neg (by simpa using h)]
theorem valD_absent : ∀ {d : List (α × Nat)} {j : α}, j ∉ keysD d → valD d j = 0
  | [], _, _ => rfl
  | q :: d, j, h => by
    rw [valD_cons, if_neg (fun e => h (by rw [← e]; exact List.mem_cons_self)), valD_absent fun z => h (List.mem_cons_of_mem _ z)]
theorem valD_setD (d : List (α × Nat)) (k j : α) (n : Nat) : valD (setD d k n) j = if j = k then n else valD d j := by
  unfold setD
  by_cases h : hasD d k = true
  · rw [if_pos h]
    have hk := hasD_iff.mp h
    clear h
    induction d with
    | nil => cases hk
    | cons q d ih =>
      rw [List.map_cons, valD_cons, valD_cons]
      by_cases e : q.1 = k
      · rw [if_pos e]
        by_cases ej : j = k
        · rw [if_pos ej, if_pos (by rw [ej]; exact e)]
        · have hne : ¬ q.1 = j := fun z => ej (by rw [← z, e])
          have hne2 : ¬ (q.1, n).1 = j := hne
          rw [if_neg ej, if_neg hne2, if_neg hne]
          by_cases hm : k ∈ keysD d
          · rw [ih hm, if_neg ej]
          · congr 1
            conv => rhs; rw [← List.map_id d]
            exact List.map_congr_left fun r hr => by
              show (if r.1 = k then (r.1, n) else r) = r
              rw [if_neg (fun z => hm (List.mem_map.mpr ⟨r, hr, z⟩))]
      · rw [if_neg e]
        have hm : k ∈ keysD d := by
          rcases List.mem_cons.mp hk with z | z
          · exact absurd z.symm e
          · exact z
        rw [ih hm]
        by_cases ej : j = k
        · rw [if_neg (show ¬ q.1 = j by rw [ej]; exact e), if_pos ej, if_pos ej]
        · rw [if_neg ej, if_neg ej]
  · rw [if_neg h]
    have hk : k ∉ keysD d := fun z => h (hasD_iff.mpr z)
    clear h
    induction d with
    | nil =>
      rw [List.nil_append, valD_cons]
      by_cases ej : j = k
      · rw [if_pos ej, if_pos ej.symm]
      · rw [if_neg ej, if_neg (Ne.symm ej)]
    | cons q d ih =>
      have hq : q.1 ≠ k := fun z => hk (by rw [← z]; exact List.mem_cons_self)
      rw [List.cons_append, valD_cons, valD_cons, ih fun z => hk (List.mem_cons_of_mem _ z)]
      by_cases ej : j = k
      · rw [if_neg (show ¬ q.1 = j by rw [ej]; exact hq), if_pos ej, if_pos ej]
      · rw [if_neg ej, if_neg ej]
theorem valD_addD (d : List (α × Nat)) (k j : α) (v : Nat) : valD (addD d k v) j = valD d j + (if j = k then v else 0) := by
  unfold addD
  rw [valD_setD]
  by_cases e : j = k
  · rw [if_pos e, if_pos e, e]
  · rw [if_neg e, if_neg e]; rfl
theorem mem_addD {d : List (α × Nat)} {k j : α} {n : Nat} : j ∈ keysD (addD d k n) ↔ j = k ∨ j ∈ keysD d := mem_setD
theorem nodup_addD {d : List (α × Nat)} {k : α} {n : Nat} (h : (keysD d).Nodup) : (keysD (addD d k n)).Nodup := nodup_setD h
theorem len_addD (d : List (α × Nat)) (k : α) (n : Nat) : (addD d k n).length ≤ d.length + 1 := len_setD ..
/-! .. as the program's dicts -/
variable {κ : Type} [DecidableEq κ]
def encD (e : α → κ) (d : List (α × Nat)) : List (κ × PyData) := d.map fun q => (e q.1, .int (q.2 : Nat))
theorem keys_encD (e : α → κ) (d : List (α × Nat)) : (encD e d).map (·.1) = (keysD d).map e := by unfold encD keysD; rw [List.map_map, List.map_map]; rfl
theorem len_encD (e : α → κ) (d : List (α × Nat)) : (encD e d).length = d.length := by unfold encD; rw [List.length_map]
variable {e : α → κ}
theorem getP_find (he : ∀ a b, e a = e b → a = b) (k : α) : ∀ d : List (α × Nat), getP (encD e d) (e k) = (d.find? fun q => decide (q.1 = k)).map fun q => .int (q.2 : Nat)
  | [] => rfl
  | q :: d => by
    have ih := getP_find he k d
    unfold getP at ih ⊢
    show ((((e q.1, PyData.int (q.2 : Nat)) :: encD e d).find? _).map _) = _
    by_cases h : q.1 = k
    · rw [List.find?_cons_of_pos (by simpa using congrArg e h), List.find?_cons_of_pos (by simpa using h)]; rfl
    · rw [List.find?_cons_of_neg (by simpa using fun z => h (he _ _ z)), List.find?_cons_of_neg (by simpa using h), ih]
theorem getP_has (he : ∀ a b, e a = e b → a = b) {k : α} {d : List (α × Nat)} (h : k ∈ keysD d) : getP (encD e d) (e k) = some (.int (valD d k : Nat)) := by
  rw [getP_find he]
  unfold valD
  cases c : d.find? fun q => decide (q.1 = k) with
  | none =>
    obtain ⟨q, hq, e2⟩ := List.mem_map.mp h
    have := List.find?_eq_none.mp c q hq
    exact absurd (decide_eq_true e2) this
  | some q => rfl
theorem getP_getD (he : ∀ a b, e a = e b → a = b) (k : α) (d : List (α × Nat)) : (getP (encD e d) (e k)).getD (.int 0) = .int (valD d k : Nat) := by
  rw [getP_find he]
  unfold valD
  cases d.find? fun q => decide (q.1 = k) <;> rfl
theorem putP_set (he : ∀ a b, e a = e b → a = b) (d : List (α × Nat)) (k : α) (n : Nat) : putP (encD e d) (e k) (.int (n : Nat)) = encD e (setD d k n) := by
  have hany : ((encD e d).any fun kv => decide (kv.1 = e k)) = hasD d k := by
    unfold encD hasD
    rw [List.any_map]
    congr 1
    funext q
    show decide (e q.1 = e k) = decide (q.1 = k)
    rw [Bool.eq_iff_iff, decide_eq_true_eq, decide_eq_true_eq]
    exact ⟨he _ _, congrArg e⟩
  unfold putP setD
  rw [hany]
  by_cases h : hasD d k = true
  · rw [if_pos h, if_pos h]
    unfold encD
    rw [List.map_map, List.map_map]
    refine List.map_congr_left fun q _ => ?_
    show (if e q.1 = e k then (e q.1, PyData.int (n : Nat)) else (e q.1, .int (q.2 : Nat))) = (e (if q.1 = k then (q.1, n) else q).1, .int ((if q.1 = k then (q.1, n) else q).2 : Nat))
    by_cases c : q.1 = k
    · rw [if_pos (congrArg e c), if_pos c]
    · rw [if_neg (fun z => c (he _ _ z)), if_neg c]
  · rw [if_neg h, if_neg h]
    unfold encD
    rw [List.map_append]; rfl
end
/-- two numbers, four numbers as a key -/
def eN2 (k : Nat × Nat) : List Key := [gN k.1, gN k.2]
def eN4 (k : Nat × Nat × Nat × Nat) : List Key := [gN k.1, gN k.2.1, gN k.2.2.1, gN k.2.2.2]
theorem gN_inj {a b : Nat} (h : gN a = gN b) : a = b := by have := Sum.inl.inj h; omega
theorem eN2_inj : ∀ a b, eN2 a = eN2 b → a = b := fun a b h => by
  unfold eN2 at h
  obtain ⟨h1, h2⟩ := List.cons.inj h
  exact Prod.ext (gN_inj h1) (gN_inj (List.cons.inj h2).1)
theorem eN4_inj : ∀ a b, eN4 a = eN4 b → a = b := fun a b h => by
  unfold eN4 at h
  obtain ⟨h1, h⟩ := List.cons.inj h
  obtain ⟨h2, h⟩ := List.cons.inj h
  obtain ⟨h3, h⟩ := List.cons.inj h
  exact Prod.ext (gN_inj h1) (Prod.ext (gN_inj h2) (Prod.ext (gN_inj h3) (gN_inj (List.cons.inj h).1)))
theorem gNi_inj : ∀ a b : Nat, gN a = gN b → a = b := fun _ _ h => gN_inj h
/-- the keys, sorted -/
def sk2 (l : List (Nat × Nat)) : List (Nat × Nat) := isort (fun a b => ltKL (eN2 a) (eN2 b)) l
def sk4 (l : List (Nat × Nat × Nat × Nat)) : List (Nat × Nat × Nat × Nat) := isort (fun a b => ltKL (eN4 a) (eN4 b)) l
theorem sk2_perm (l : List (Nat × Nat)) : (sk2 l).Perm l := isort_perm l
theorem sk4_perm (l : List (Nat × Nat × Nat × Nat)) : (sk4 l).Perm l := isort_perm l
theorem sort_enc2 (d : List ((Nat × Nat) × Nat)) : (isort ltKL ((encD eN2 d).map (·.1))).map dKL = (sk2 (keysD d)).map fun k => .tuple [.int (k.1 : Nat), .int (k.2 : Nat)] := by
  rw [keys_encD, isort_map, List.map_map]; rfl
theorem sort_enc4 (d : List ((Nat × Nat × Nat × Nat) × Nat)) : (isort ltKL ((encD eN4 d).map (·.1))).map dKL = (sk4 (keysD d)).map fun k => .tuple [.int (k.1 : Nat), .int (k.2.1 : Nat), .int (k.2.2.1 : Nat), .int (k.2.2.2 : Nat)] := by
  rw [keys_encD, isort_map, List.map_map]; rfl
theorem same_enc2 (d : List ((Nat × Nat) × Nat)) : sameSh ((encD eN2 d).map (·.1)) = true := by
  rw [keys_encD]; exact sameSh_map (x := true) (sh := [true]) eN2 (fun _ => rfl) _
theorem same_enc4 (d : List ((Nat × Nat × Nat × Nat) × Nat)) : sameSh ((encD eN4 d).map (·.1)) = true := by
  rw [keys_encD]; exact sameSh_map (x := true) (sh := [true, true, true]) eN4 (fun _ => rfl) _
end Pv

/-! sorted(d.items()), sorted(range(n)), d != e -/
namespace Pv
open PySem PySem.Spec PyProof.Rows L2 L2.DX
section
variable {X : Cx}
def rItemsK : V → List V → Hp → VK → Prop := fun x xs H Q => ∃ (a : Addr) (kvs : List (Key × V)), x = .ref a ∧ xs = [] ∧ H a = some (.dK kvs) ∧ ∀ p, H p = none → Q (.ref p) (upd H p (itemsO p a))
theorem mt_itemsK : MtR X "dict.items" rItemsK := by
  intro pins s σ H x xs v us Q I rx rxs h
  obtain ⟨a, kvs, rfl, rfl, ha, q⟩ := h
  cases rx
  cases rxs
  obtain ⟨z, lo, es, rel, dd⟩ := dk_of I.hok ha
  obtain ⟨o, es', ep, ho, hx, hdat, _⟩ := dd
  refine DT.callItems (es := es') (ep := ep) lo ⟨o, ho, hx, hdat⟩ ?_
  have hf : H s.heap.objs.size = none := I.hok.fresh (Nat.le_refl _)
  exact ⟨.ref s.heap.objs.size, upd H s.heap.objs.size (itemsO s.heap.objs.size a), I.laid (t' := s.toks) (fun b u e => Heap.get?_push_of_some _ e) (Nat.le_refl _) (itemsO_ok (Heap.get?_push_size _ rfl)), rfl, q _ hf⟩
theorem items_made {pins : List (Addr × Obj)} {σ : L2.St} {H : Hp} {s : Shared} {h' : Heap} {tk : Nat} {kvs : List (Key × V)} {vs : List (Key × Value)} {as : List Addr} (I : Inv X pins σ H s) (hz : kvs.length ≤ sizeLine) (kv : KV kvs vs)
    (hk : ∀ b o, s.heap.get? b = some o → h'.get? b = some o) (hl : as.length = vs.length) (hG : PySem.W.KdxG (mixKind X.prog X.w) vs s.heap.objs.size h' as) :
    Inv X pins σ (LiI.putT H as kvs) { s with heap := h', toks := tk } ∧ (∀ b o, H b = some o → LiI.putT H as kvs b = some o) ∧ Paired (fun (t : Addr) (q : Key × V) => LiI.putT H as kvs t = some (.tup [kV q.1, q.2])) as kvs := by
  have lk : kvs.length = vs.length := Paired.length kv
  have nd : as.Nodup := List.Pairwise.imp (fun {a b} (h : a < b) => Nat.ne_of_lt h) hG.rise
  have new : ∀ t ∈ as, H t = none := fun t ht => I.hok.fresh (Nat.le_of_lt (hG.above t ht))
  have atP := LiI.putT_at as kvs H (by omega) nd
  have off : ∀ b, b ∉ as → LiI.putT H as kvs b = H b := fun b h1 => LiI.putT_off as kvs _ h1
  have low : ∀ b o, s.heap.get? b = some o → b ∉ as := fun b o e z => absurd (Heap.lt_size e) (Nat.not_lt.mpr (Nat.le_of_lt (hG.above b z)))
  have kp : ∀ b u, H b = some u → LiI.putT H as kvs b = some u := fun b u e => by
    rw [off b (fun z => by rw [new b z] at e; cases e)]
    exact e
  refine ⟨?_, kp, atP⟩
  refine I.call' (ch := []) rfl ⟨fun b o q _ _ _ => hk b o q, fun b o q _ _ _ => ⟨o.slots, hk b o q⟩, fun b o q n _ => ?_, fun b o q _ => ⟨o, hk b o q⟩, fun b xs q => kp b _ q, fun b o u q => kp b _ q, fun b ps q => ⟨#[], by rw [kp b _ q]; simp⟩⟩ (fun b u q => ?_) I.bare fun b z => by simp at z
  · rw [off b (low b o q)]
    exact n
  · by_cases hb : b ∈ as
    · obtain ⟨j, pk, e1, e2, e3⟩ := LiI.paired_ix atP hb
      rw [e3] at q
      cases q
      obtain ⟨key, k, x, f1, f2, f3⟩ := hG.pairs j b e1
      obtain ⟨qv, g1, g2, g3⟩ := LiI.paired_get kv e2
      rw [f1] at g1
      cases g1
      have rk : RelV (kV pk.1) key := by
        rw [g2]
        exact relV_key (show keyIs k key = true from f2)
      exact ⟨by show 2 ≤ sizeLine; decide, [key, x], .cons rk (.cons g3 .nil), ⟨_, f3, rfl, _, rfl⟩⟩
    · rw [off b hb] at q
      exact (I.hok b u q).stay (fun d v _ y => hk d v y) (fun d y => kp d _ y) fun d xs y => kp d _ y
def rSortIK : List V → Hp → VK → Prop := fun vs H Q => ∃ (p a : Addr) (kvs : List (Key × V)) (x : Bool) (sh : List Bool), vs = [V.ref p] ∧ H p = some (itemsO p a) ∧ H a = some (.dK kvs) ∧ (∀ q ∈ kvs, ∃ k, q.2 = kV k ∧ shK [q.1, k] = x :: sh) ∧
  ∀ (H' : Hp) (ys : List V) (l : Addr), Same H H' → (∀ y ∈ ys, ∃ t, y = V.ref t ∧ H' t = some (.tup ((kOf H' y).map kV))) → ys.map (kOf H') = isort ltKL (kvs.map fun q => [q.1, vK q.2]) → H' l = none → Q (.ref l) (upd H' l (.lst ys))
theorem kOf_at {H : Hp} {b : Addr} {ks : List Key} (e : H b = some (.tup (ks.map kV))) : kOf H (.ref b) = ks := by
  show (match H b with
    | some (.tup vs) => vs.map vK
    | _ => []) = ks
  rw [e]; exact vK_map ks
theorem cr_sortIK (hcalm : X.calm = true) : CallR X (.builtin "sorted") rSortIK := by
  intro pins s σ H vs us Q I r h
  obtain ⟨p, a, kvs, x, sh, rfl, hp, hd, hsh, q⟩ := h
  rw [Vals.ref1 r]
  have view : s.heap.IsItemsView p a := (show ObjOk X.prog X.w H s.heap p (itemsO p a) from I.hok p _ hp).1
  obtain ⟨z, lo, es, rel, dd⟩ := dk_of I.hok hd
  obtain ⟨ep, hat⟩ := dd.dictAt
  have lk : kvs.length = es.length := Paired.length rel
  refine Calls.call_function_entry PyProof.Rows.kind_sorted PyProof.Rows.plain_sorted PyProof.Rows.entry_sorted (PyProof.Rows.args_sorted1 _) ?_
  unfold Builtin.«sorted»
  refine wpAny_bind (m := checkCount "sorted" 1 1 _) (wpAny_pure ?_)
  refine wpAny_bind (PySem.W.kdx_collect (A := X.A.in1) (knd := mixKind X.prog X.w) (kvs := es) (ep := ep) (I.ok.hd hcalm) view hat (by omega) fun h' tk as hk hl hG => ?_)
  obtain ⟨I1, kp, atP⟩ := items_made (tk := tk) I z rel hk hl hG
  generalize hH : LiI.putT H as kvs = H' at I1 kp atP
  have hkey : ∀ b ∈ as, ∃ ks, H' b = some (.tup (ks.map kV)) ∧ shK ks = x :: sh := fun b hb => by
    obtain ⟨j, pk, e1, e2, e3⟩ := LiI.paired_ix atP hb
    obtain ⟨k, ek, hs⟩ := hsh _ (List.mem_of_getElem? e2)
    exact ⟨[pk.1, k], by rw [e3, ek]; rfl, hs⟩
  have hvk : ∀ v ∈ as.map Value.ref, IsKT ({ s with heap := h', toks := tk } : Shared).heap v (kOf H' (backV v)) ∧ shK (kOf H' (backV v)) = x :: sh := fun v hm => by
    obtain ⟨b, hb, rfl⟩ := List.mem_map.mp hm
    obtain ⟨ks, e, hs⟩ := hkey b hb
    obtain ⟨_, its2, r2, ht2⟩ := I1.hok _ _ e
    obtain ⟨z1, z2⟩ := vals_keys r2
    have ek : kOf H' (backV (Value.ref b)) = ks := kOf_at e
    rw [ek]
    exact ⟨⟨b, its2.toArray, rfl, ht2, z1, z2⟩, hs⟩
  refine sort_tailKT (s := { s with heap := h', toks := tk }) (k := fun v => kOf H' (backV v)) (by rw [List.length_map]; omega) (fun v hm => (hvk v hm).1) (fun v hm => (hvk v hm).2) fun s' out c k2 g2 o2 d2 hat2 hsr hpm => ?_
  have h3 : ∀ u ∈ out, ∃ a, u = Value.ref a := fun u hu => by
    obtain ⟨b, _, e⟩ := List.mem_map.mp (hpm.mem_iff.mp hu)
    exact ⟨b, e.symm⟩
  have hlen2 : (out.map backV).length ≤ sizeLine := by rw [List.length_map, hpm.length_eq, List.length_map]; omega
  have hmap : ((as.map Value.ref).map fun v => kOf H' (backV v)) = kvs.map fun q => [q.1, vK q.2] := by
    rw [List.map_map]
    clear hG hl I1 hkey hvk hpm hH
    have gen : ∀ {l : List (Key × V)} {bs : List Addr}, (∀ q ∈ l, ∃ k, q.2 = kV k ∧ shK [q.1, k] = x :: sh) → Paired (fun (t : Addr) (q : Key × V) => H' t = some (.tup [kV q.1, q.2])) bs l → bs.map ((fun v => kOf H' (backV v)) ∘ Value.ref) = l.map fun q => [q.1, vK q.2] := fun {l bs} hq h => by
      induction h with
      | nil => rfl
      | cons h _ ih =>
        rw [List.map_cons, List.map_cons, ih fun q hm => hq q (List.mem_cons_of_mem _ hm)]
        obtain ⟨k, ek, _⟩ := hq _ List.mem_cons_self
        congr 1
        rw [ek, vK_kV]
        exact kOf_at (by rw [h, ek]; rfl)
    exact gen hsh atP
  have hys : ∀ y ∈ out.map backV, ∃ t, y = V.ref t ∧ H' t = some (.tup ((kOf H' y).map kV)) := fun y hy => by
    obtain ⟨v, hvm, rfl⟩ := List.mem_map.mp hy
    obtain ⟨b, hb, rfl⟩ := List.mem_map.mp (hpm.mem_iff.mp hvm)
    obtain ⟨ks, e, _⟩ := hkey b hb
    refine ⟨b, rfl, ?_⟩
    have ek : kOf H' (backV (Value.ref b)) = ks := kOf_at e
    rw [ek]; exact e
  have hso : (out.map backV).map (kOf H') = isort ltKL (kvs.map fun q => [q.1, vK q.2]) := by
    rw [List.map_map]
    refine isort_eq ltKL_swo ltKL_lin ?_ (List.pairwise_map.mpr hsr)
    rw [← hmap]
    exact hpm.map _
  obtain ⟨hp', gs, dr, tk', os⟩ := s'
  cases g2
  cases o2
  cases d2
  exact ⟨.ref h'.objs.size, upd H' h'.objs.size (.lst (out.map backV)), I1.laid (t' := tk') k2 (Nat.le_refl _) ⟨hlen2, out, c, vals_back h3, hat2⟩, rfl, q _ _ _ kp hys hso (I1.hok.fresh (Nat.le_refl _))⟩
end
/-! .. by mirrors -/
def ocOf (v : Ev) (ρ : Rho) : Option Oc := match v with
  | .o c => some c
  | .b i => getOc ρ i
  | .d _ => none
def pairsL : List (Key × PyData) → Option (List (List Key))
  | [] => some []
  | q :: r => match keyP q.2, pairsL r with
    | some y, some ys => some ([q.1, y] :: ys)
    | _, _ => none
def srtIt (kvs : List (Key × PyData)) (ρ : Rho) : Option (Rg Ev) := match pairsL kvs with
  | some kss => if sameSh kss = true then some (.ok (.o (.l ((isort ltKL kss).map dKL))) ρ) else none
  | none => none
def mSortIt (me : ME) : ME := fun ρ => bd (me ρ) fun v ρ1 => match ocOf v ρ1 with
  | some (.k kvs) => srtIt kvs ρ1
  | _ => none
section
variable {X : Cx} {w : WC} {K : PySem.W.Frag} {σ : L2.St} {H : Hp} {fr : Fr} {F : Hp} {ρ : Rho} {pos : Pos}
theorem ocOf_ok (S : SR K fr F σ H ρ) {u : V} {v : Ev} {c : Oc} (r : EvRep fr F σ H ρ u v) (e : ocOf v ρ = some c) : ∃ p, u = .ref p ∧ OcRep F H p c := by
  cases v with
  | d x => cases e
  | o c' =>
    cases e
    obtain ⟨p, e1, _, _, _, rep⟩ := r
    exact ⟨p, e1, rep⟩
  | b i =>
    obtain ⟨p, a, rep⟩ := slot_val S (show getOc ρ i = some c from e)
    have r' : σ[i]? = some (some u) := r
    rw [a] at r'
    cases r'
    exact ⟨p, rfl, rep⟩
theorem pairsL_ok {F : Hp} : ∀ {ks : List (Key × V)} {kvs : List (Key × PyData)} {kss : List (List Key)}, RpK F ks kvs → pairsL kvs = some kss → (∀ q ∈ ks, ∃ k, q.2 = kV k ∧ [q.1, k] ∈ kss) ∧ ks.map (fun q => [q.1, vK q.2]) = kss
  | _, _, kss, .nil, e => by cases e; exact ⟨(fun q h => by cases h), rfl⟩
  | _, _, kss, .cons (a := kx) (b := px) (l₁ := kr) (l₂ := pr) h t, e => by
    have e' : (match keyP px.2, pairsL pr with
      | some y, some ys => some ([px.1, y] :: ys)
      | _, _ => none) = some kss := e
    cases e1 : keyP px.2 with
    | none => rw [e1] at e'; cases e'
    | some k =>
      cases e2 : pairsL pr with
      | none => rw [e1, e2] at e'; cases e'
      | some ys =>
        rw [e1, e2] at e'
        cases e'
        obtain ⟨h1, h2⟩ := pairsL_ok t e2
        have ek : kx.2 = kV k := key_of' h.2 e1
        refine ⟨fun q hq => ?_, ?_⟩
        · rcases List.mem_cons.mp hq with rfl | hq
          · exact ⟨k, ek, by rw [h.1]; exact List.mem_cons_self⟩
          · obtain ⟨k2, a, b⟩ := h1 q hq
            exact ⟨k2, a, List.mem_cons_of_mem _ b⟩
        · rw [List.map_cons, h2, h.1, ek, vK_kV]
where
  key_of' {F : Hp} {u : V} {x : PyData} {k : Key} (h : Rp F u x) (e : keyP x = some k) : u = kV k := Pv.key_of (H := F) (.inl h) e
theorem sortIt_of {me : ME} {Q : VK} (h : tE K w (mSortIt me) σ H Q) : tCB rSortIK (tCons (tBM0 K "dict" rItemsK (tE K w me)) tNil) σ H Q := by
  obtain ⟨fr, F, ρ, S, h⟩ := h
  refine ⟨fr, F, ρ, S, h.bd fun v1 ρ1 F1 H1 u1 S1 s1 r1 h1 => ?_⟩
  have h2 : WPg K w EvRep Q fr F1 σ (match ocOf v1 ρ1 with
    | some (.k kvs) => srtIt kvs ρ1
    | _ => none) := h1
  match e : ocOf v1 ρ1 with
  | none => rw [e] at h2; exact h2.elim
  | some (.l _) => rw [e] at h2; exact h2.elim
  | some (.t _) => rw [e] at h2; exact h2.elim
  | some (.k kvs) =>
    rw [e] at h2
    have h3 : WPg K w EvRep Q fr F1 σ (match pairsL kvs with
      | some kss => if sameSh kss = true then some (.ok (.o (.l ((isort ltKL kss).map dKL))) ρ1) else none
      | none => none) := h2
    obtain ⟨p, rfl, ks, hp, rk⟩ := ocOf_ok S1 r1 e
    cases e2 : pairsL kvs with
    | none => rw [e2] at h3; exact h3.elim
    | some kss =>
      rw [e2] at h3
      have h4 : WPg K w EvRep Q fr F1 σ (if sameSh kss = true then some (.ok (.o (.l ((isort ltKL kss).map dKL))) ρ1) else none) := h3
      by_cases c : sameSh kss = true
      · rw [if_pos c] at h4
        obtain ⟨h5, h6⟩ := pairsL_ok rk e2
        obtain ⟨x, sh, hsh⟩ := sameSh_of c
        refine ⟨.inr (.inr (.inl ⟨rfl, .inl ⟨ks, hp⟩⟩)), p, ks, rfl, rfl, hp, fun v nv => ?_⟩
        obtain ⟨S2, nF, nZ, no⟩ := S1.newO (o := itemsO v p) nv
        have hpv : p ≠ v := ne_of_none hp nv
        refine ⟨v, p, ks, x, sh, rfl, upd_same, by rw [upd_ne hpv]; exact hp, fun q hq => ?_, fun H' ys l sH hys hso n => ?_⟩
        · obtain ⟨k, a, b⟩ := h5 q hq
          exact ⟨k, a, hsh _ b⟩
        · have S3 : SR K fr F1 σ H' ρ1 := S2.grow ⟨Same.refl _, sH, S2.sF.trans sH, (fun _ _ _ h => h), fun _ _ h => h⟩
          obtain ⟨F', sm, S4, hF⟩ := S3.addTups ys fun y hy => by
            obtain ⟨t, e, ht⟩ := hys y hy
            exact ⟨t, _, e, ht⟩
          have kk : ∀ y ∈ ys, kOf F' y = kOf H' y := fun y hy => by
            obtain ⟨t, e, ht⟩ := hF y hy
            subst e
            show (match F' t with
              | some (.tup vs) => vs.map vK
              | _ => []) = (match H' t with
              | some (.tup vs) => vs.map vK
              | _ => [])
            rw [ht]
          have hys' : ∀ y ∈ ys, ∃ t, y = .ref t ∧ F' t = some (.tup ((kOf F' y).map kV)) := fun y hy => by
            obtain ⟨t, e, ht⟩ := hF y hy
            obtain ⟨t2, e2, ht2⟩ := hys y hy
            rw [e] at e2
            cases e2
            exact ⟨t, e, by rw [kk y hy, ht, ht2]⟩
          have hso' : ys.map (kOf F') = isort ltKL kss := by
            rw [List.map_congr_left kk, hso, h6]
          have wv := WVr_of (w := w) (Q := Q) (r := .li ((isort ltKL kss).map dKL)) S4 (fun F'' H'' b S'' sm2 rel => h4 F'' H'' b S'' (sm.trans sm2) rel)
          have ra := rpa_tups hys'
          rw [hso'] at ra
          exact wv _ l ra n
      · rw [if_neg c] at h4; exact h4.elim
theorem e_sortIt {o : Expr} {mo : ME} {p apos cpos : Pos} (hc : X.calm = true) (hg : Gl X "sorted") (hm : X.mg "sorted" = none) (hb : bootBuiltins "sorted" = some (.builtin "sorted")) (ho : PE X o (tE X.K w mo))
    (hbase : attributeBase o "items" X.env (eval o X.env) = eval o X.env := by rfl) (hline : (apos.endLine == cpos.line) = true := by rfl)
    (hs : starEach [.Call (.Attribute o "items" apos) [] [] cpos] X.env = (false, eval (.Call (.Attribute o "items" apos) [] [] cpos) X.env) :: starEach [] X.env := by rfl) (hpl : (backTo pos (starEach [] X.env)).any (·.1) = false := by rfl) :
    PE X (.Call (.Name "sorted" p) [.Call (.Attribute o "items" apos) [] [] cpos] [] pos) (tE X.K w (mSortIt mo)) :=
  wkE (pe_callB (cr_sortIK hc) hg hm hb (pa_cons (pe_bm0 PySem.F.plainAttrs_dict PySem.F.slot_dict_items PySem.F.type_dict_items mt_itemsK ho hbase hline) pa_nil hs) (by decide) (by decide) hs hpl) fun _ _ _ h => sortIt_of h
/-! sorted(range(n)) -/
theorem rgV_sorted (a b : Int) : isort ltK ((List.range (b - a).toNat).map fun i => (.inl (a + (i : Nat)) : Key)) = (List.range (b - a).toNat).map fun i => (.inl (a + (i : Nat)) : Key) := by
  refine (isort_eq ltK_swo ltK_lin (List.Perm.refl _) ?_).symm
  refine List.pairwise_map.mpr ?_
  refine List.pairwise_lt_range.imp fun {x y} h => ?_
  show decide (a + (y : Int) < a + (x : Int)) = false
  exact decide_eq_false (by omega)
theorem pe_sortRg {e : Expr} {te : L2.St → Hp → (Int → Int → Hp → Prop) → Prop} {p pos : Pos} (hc : X.calm = true) (hg : Gl X "sorted") (hm : X.mg "sorted" = none) (hb : bootBuiltins "sorted" = some (.builtin "sorted")) (he : PRg X e te) (na : starEach [e] X.env = (false, eval e X.env) :: starEach [] X.env := by rfl) :
    PE X (.Call (.Name "sorted" p) [e] [] pos) (tLstRg te) := by
  refine ⟨fun pins s σ H Q I h => ?_⟩
  refine Call_ (ld_blt I hg hm hb (PyProof.Rows.callWith_builtin1 (args_cons (thn (he pins s σ H _ I h) fun x s1 ⟨r, a, b, t, u, v, H1, ex, hr, I1, ok, q⟩ => args_nil ?_) na) na))
  subst ex
  obtain ⟨b1, b2, b3, b4, b5⟩ := ok
  refine Calls.call_function_entry PyProof.Rows.kind_sorted PyProof.Rows.plain_sorted PyProof.Rows.entry_sorted (PyProof.Rows.args_sorted1 _) ?_
  unfold Builtin.«sorted»
  refine wpAny_bind (m := checkCount "sorted" 1 1 _) (wpAny_pure ?_)
  refine wpAny_bind (collect_range (A := X.A.in1) (n := (b - a).toNat) (I1.ok.hd hc) hr (small_one b1 b2 b3 b4) (rangeSize_nat a b) b5 fun h' tk acc hk hi => ?_)
  have rv : Vals (((List.range (b - a).toNat).map fun i => (.inl (a + (i : Nat)) : Key)).map kV) acc.toList := by
    have h0 := vals_rg hi
    unfold rgV at h0
    rw [List.map_map]; exact h0
  obtain ⟨ek, hk2⟩ := vals_keys rv
  have I2 : Inv X pins σ H1 { s1 with heap := h', toks := tk } := I1.kept hk
  have hl : acc.toList.length = (b - a).toNat := by rw [Array.length_toList, hi.1]
  refine sort_tail (s := { s1 with heap := h', toks := tk }) (by rw [hl, sizeLine_eq]; omega) hk2 (by
    rw [ek]
    unfold sameK
    rw [Bool.or_eq_true]
    exact .inl (List.all_eq_true.mpr fun x hx => by obtain ⟨c, _, rfl⟩ := List.mem_map.mp hx; rfl)) fun s' out c k2 g2 o2 d2 hat2 eo ho hl2 => ?_
  have hv := vals_of ho
  rw [eo, ek, rgV_sorted, List.map_map] at hv
  have hv : Vals (rgV a b) out := hv
  obtain ⟨hp', gs, dr, tk', os⟩ := s'
  cases g2
  cases o2
  cases d2
  exact ⟨.ref h'.objs.size, upd H1 h'.objs.size (.lst (rgV a b)), I2.laid (t' := tk') k2 (Nat.le_refl _) ⟨by rw [rgV_length, sizeLine_eq]; omega, out, c, hv, hat2⟩, rfl, q _ (I2.hok.fresh (Nat.le_refl _))⟩
theorem e_sortRange1 {a : Expr} {ma : ME} {p p2 q : Pos} (hc : X.calm = true) (hg : Gl X "sorted") (hm : X.mg "sorted" = none) (hb : bootBuiltins "sorted" = some (.builtin "sorted")) (hg2 : Gl X "range") (hm2 : X.mg "range" = none) (ha : PE X a (tE X.K w ma))
    (na : starEach [a] X.env = (false, eval a X.env) :: starEach [] X.env := by rfl) : PE X (.Call (.Name "sorted" p) [.Call (.Name "range" p2) [a] [] q] [] pos) (tE X.K w (mListRange1 ma)) :=
  wkE (pe_sortRg hc hg hm hb (prg_1 hg2 hm2 ha na)) fun σ H Q ⟨fr, F, ρ, S, h⟩ => by
    refine ⟨fr, F, ρ, S, h.bd fun v1 ρ1 F1 H1 u1 S1 s1 r1 h1 => ?_⟩
    match v1, r1, h1 with
    | .d (.int n), r1, h1 =>
      cases r1
      exact ⟨n, rfl, lr_of S1 h1⟩
    | .b _, r1, h1 => exact h1.elim
    | .o _, r1, h1 => exact h1.elim
    | .d .none, r1, h1 => exact h1.elim
    | .d (.bool _), r1, h1 => exact h1.elim
    | .d (.str _), r1, h1 => exact h1.elim
    | .d (.list _), r1, h1 => exact h1.elim
    | .d (.tuple _), r1, h1 => exact h1.elim
    | .d (.dict _), r1, h1 => exact h1.elim
end
/-! d != e, the same numbers in both -/
def SameD (a b : List (Key × PyData)) : Prop := a.length = b.length ∧ ∀ q ∈ a, scalar q.2 = true ∧ getP b q.1 = some q.2
def scEq : PyData → PyData → Bool
  | .none, .none => true
  | .bool a, .bool b => decide (a = b)
  | .int a, .int b => decide (a = b)
  | .str a, .str b => decide (a = b)
  | _, _ => false
theorem scEq_iff {x y : PyData} : scEq x y = true ↔ scalar x = true ∧ x = y := by
  cases x <;> cases y <;> simp [scEq, scalar]
def sameDB (a b : List (Key × PyData)) : Bool := decide (a.length = b.length) && a.all fun q => match getP b q.1 with
  | some y => scEq q.2 y
  | none => false
theorem sameDB_iff {a b : List (Key × PyData)} : sameDB a b = true ↔ SameD a b := by
  unfold sameDB SameD
  rw [Bool.and_eq_true, decide_eq_true_eq, List.all_eq_true]
  refine and_congr Iff.rfl (forall_congr' fun q => imp_congr Iff.rfl ?_)
  cases getP b q.1 with
  | none => exact ⟨(fun h => by cases h), (fun h => by cases h.2)⟩
  | some y => exact scEq_iff.trans ⟨fun h => ⟨h.1, by rw [h.2]⟩, fun h => ⟨h.1, (Option.some.inj h.2).symm⟩⟩
def neDD (x y : Option Oc) (ρ : Rho) : Option (Rg Ev) := match x, y with
  | some (.k a), some (.k b) => if sameDB a b = true then some (.ok (.d (.bool false)) ρ) else none
  | _, _ => none
def mNeDD (ma mb : ME) : ME := fun ρ => bd (ma ρ) fun v1 ρ1 => bd (mb ρ1) fun v2 ρ2 => neDD (ocOf v1 ρ2) (ocOf v2 ρ2) ρ2
section
variable {X : Cx} {a b : Expr} {w : WC} {K : PySem.W.Frag} {σ : L2.St} {H : Hp} {fr : Fr} {F : Hp} {ρ : Rho} {pos : Pos}
theorem RpK.at {F : Hp} : ∀ {ks : List (Key × V)} {kvs : List (Key × PyData)}, RpK F ks kvs → ∀ p ∈ ks, ∃ q ∈ kvs, p.1 = q.1 ∧ Rp F p.2 q.2
  | _, _, .nil, p, h => by cases h
  | _, _, .cons r t, p, h => by
    rcases List.mem_cons.mp h with rfl | h
    · exact ⟨_, List.mem_cons_self, r.1, r.2⟩
    · obtain ⟨q, a, b⟩ := RpK.at t p h
      exact ⟨q, List.mem_cons_of_mem _ a, b⟩
theorem flat_toV {x : PyData} (h : scalar x = true) : flatB (toV x) = true := by
  cases x <;> first | rfl | cases h
theorem neDD_of {ma mb : ME} {Q : VK} (h : tE K w (mNeDD ma mb) σ H Q) : tOp rNeDA (tE K w ma) (tE K w mb) σ H Q := by
  obtain ⟨fr, F, ρ, S, h⟩ := h
  refine ⟨fr, F, ρ, S, h.bd fun v1 ρ1 F1 H1 u1 S1 s1 r1 h1 => ?_⟩
  obtain ⟨g, le, Sg, back⟩ := hold S1 r1
  have h1' := h1.frame (g := g) le S1.sA fun F' H' ρ' b a sm Sx q => (back F' H' ρ' Sx sm).2.2 _ _ q
  refine ⟨g, F1, ρ1, Sg, h1'.bd fun v2 ρ2 F2 H2 u2 S2 s2 r2 h2 => ?_⟩
  obtain ⟨S2', r1', b2⟩ := back F2 H2 ρ2 S2 s2
  have r2' := b2 _ _ r2
  have h3 : WPg K w EvRep Q g F2 σ (neDD (ocOf v1 ρ2) (ocOf v2 ρ2) ρ2) := h2
  unfold neDD at h3
  match e1 : ocOf v1 ρ2, e2 : ocOf v2 ρ2 with
  | some (.k ka), some (.k kb) =>
    rw [e1, e2] at h3
    have h4 : WPg K w EvRep Q g F2 σ (if sameDB ka kb = true then some (.ok (.d (.bool false)) ρ2) else none) := h3
    by_cases c : sameDB ka kb = true
    · rw [if_pos c] at h4
      have c := sameDB_iff.mp c
      obtain ⟨p, rfl, ks, hp, rk⟩ := ocOf_ok S2' r1' e1
      obtain ⟨q, rfl, ls, hq, rl⟩ := ocOf_ok S2' r2' e2
      refine ⟨p, q, ks, ls, rfl, rfl, hp, hq, by rw [rk.length, rl.length]; exact c.1, fun z hz => ?_, h4 F2 H2 _ S2 (Same.refl _) (.bl false)⟩
      obtain ⟨y, hy, ey, ry⟩ := RpK.at rk z hz
      obtain ⟨sc, gp⟩ := c.2 y hy
      obtain ⟨v, hv, rv⟩ := (RpK.get (k := y.1) rl).1 _ gp
      have e3 : z.2 = toV y.2 := ry.scV sc
      have e4 : v = toV y.2 := rv.scV sc
      refine ⟨by rw [ey, hv, e4, e3], by rw [e3]; exact flat_toV sc⟩
    · rw [if_neg c] at h4; exact h4.elim
  | none, _ => rw [e1] at h3; exact h3.elim
  | some (.l _), _ => rw [e1] at h3; exact h3.elim
  | some (.t _), _ => rw [e1] at h3; exact h3.elim
  | some (.k _), none => rw [e1, e2] at h3; exact h3.elim
  | some (.k _), some (.l _) => rw [e1, e2] at h3; exact h3.elim
  | some (.k _), some (.t _) => rw [e1, e2] at h3; exact h3.elim
theorem t_neDD {ma mb : ME} {k : Nat} (hr : Room k X.A) (ha : PE X a (tE X.K w ma)) (hb : PE X b (tE X.K w mb)) : PT X (.Compare a [.NotEq] [b] pos) (tT X.K w (mTest (mNeDD ma mb))) := by
  refine wkT (pt_cmpR (op_ne_dictA (by have := hu_of hr; omega)) ha hb (nomark _)) fun _ _ _ h => ?_
  exact neDD_of (test_of h)
@[simp] theorem mNeDD_ap {ma mb : ME} : mNeDD ma mb ρ = bd (ma ρ) fun v1 ρ1 => bd (mb ρ1) fun v2 ρ2 => neDD (ocOf v1 ρ2) (ocOf v2 ρ2) ρ2 := rfl
theorem neDD_same {a b : List (Key × PyData)} (h : SameD a b) : neDD (some (.k a)) (some (.k b)) ρ = some (.ok (.d (.bool false)) ρ) := if_pos (sameDB_iff.mpr h)
@[simp] theorem mSortIt_ap {me : ME} : mSortIt me ρ = bd (me ρ) fun v ρ1 => match ocOf v ρ1 with
  | some (.k kvs) => srtIt kvs ρ1
  | _ => none := rfl
@[simp] theorem ocOf_o {c : Oc} : ocOf (.o c) ρ = some c := rfl
@[simp] theorem ocOf_b {i : Nat} : ocOf (.b i) ρ = getOc ρ i := rfl
end
end Pv

/-! min(d), max(d), d with whole numbers as keys; sum(range(a, b)) -/
namespace Pv
open PySem PySem.Spec PyProof.Rows L2
section
variable {X : Cx}
def rMaxK : List V → Hp → VK → Prop := fun vs H Q => ∃ (a : Addr) (kvs : List (Key × V)) (is : List Int), vs = [V.ref a] ∧ H a = some (.dK kvs) ∧ kvs.map (·.1) = is.map Sum.inl ∧ is ≠ [] ∧ ∀ m, m ∈ is → (∀ j ∈ is, j ≤ m) → Q (.int m) H
theorem cr_maxK (hc : X.calm = true) : CallR X (.builtin "max") rMaxK := by
  intro pins s σ H vs us Q I r h
  obtain ⟨a, kvs, is, rfl, ha, hv, hne, q⟩ := h
  rw [Vals.ref1 r]
  obtain ⟨_, hsys, vs, rel, dof⟩ := dk_of I.hok ha
  obtain ⟨ep, dat⟩ := dof.dictAt
  obtain ⟨ob, es, ho, hex, hdat, hko, hpr, hnd⟩ := id dat
  have hlt : a < s.heap.objs.size := Heap.lt_size ho
  have hkeys : vs.map (·.1) = is.map Sum.inl := (KV.keys rel).symm.trans hv
  have hlv : vs.length = is.length := by
    have e1 := congrArg List.length hkeys
    rw [List.length_map, List.length_map] at e1
    exact e1
  have hlen : 0 < vs.length := by
    rw [hlv]
    exact List.length_pos_iff.mpr hne
  have hval : ∀ (i : Nat) (v : Value), (∃ k x, vs[i]? = some (k, x) ∧ (mixKind X.prog X.w).is k v = true) → ∃ t, v = Value.int (is.getD i 0) t := fun i v ⟨k, x, hk, hkey⟩ => by
    have e1 : (vs.map (·.1))[i]? = some k := by rw [List.getElem?_map, hk] <;> rfl
    rw [hkeys, List.getElem?_map] at e1
    obtain ⟨j, hj, e2⟩ := Option.map_eq_some_iff.mp e1
    subst e2
    have hi : Value.isInt j v = true := hkey
    obtain ⟨t, e3⟩ := Value.isInt_shape (k := j) (v := v) hi
    refine ⟨t, ?_⟩
    rw [e3, List.getD_eq_getElem?_getD, hj] <;> rfl
  refine call_max_walk (wpAny_pyIter_dict (knd := mixKind X.prog X.w) hsys dat ?_)
  refine ⟨_, _, _, _, _, _, _, rfl, Walks.dictKeys (knd := mixKind X.prog X.w) (A := X.A.in1) (I.ok.hd hc) s.heap.objs.size a (Nat.ne_of_lt hlt) vs ep,
    ⟨⟨_, Heap.get?_push_size _ rfl, rfl, rfl⟩, dat.keep fun b u e => Heap.get?_push_of_some _ e⟩, fun b hb => ?_, hlen, CmpOf.ints_gt (fun i => is.getD i 0) hval, fun v h' tk hP hk => ?_⟩
  · show b < (s.heap.push _).objs.size
    rw [Heap.size_push]
    rcases List.mem_cons.mp hb with e | hb
    · rw [e]
      exact Nat.lt_succ_self _
    · rw [List.mem_singleton.mp hb]
      exact Nat.lt_succ_of_lt hlt
  · obtain ⟨t, rfl⟩ := hval _ v hP
    obtain ⟨b1, b2⟩ := argBest_gt (fun i => is.getD i 0) (vs.length - 1)
    refine ⟨.int _, H, I.kept (t' := tk) fun b u e => hk b u (fun hmem => ?_) (Heap.get?_push_of_some _ e), ⟨t, rfl⟩, q _ ?_ fun j hj => ?_⟩
    · have e1 : b = s.heap.objs.size := List.mem_singleton.mp hmem
      have e2 := Heap.lt_size e
      rw [e1] at e2
      exact absurd e2 (Nat.lt_irrefl _)
    · have hb : argBest (fun i j => decide (is.getD i 0 > is.getD j 0)) (vs.length - 1) < is.length := by omega
      rw [List.getD_eq_getElem?_getD, List.getElem?_eq_getElem hb]
      exact List.getElem_mem hb
    · obtain ⟨i, hi, e⟩ := List.mem_iff_getElem.mp hj
      have e2 : is.getD i 0 = j := by rw [List.getD_eq_getElem?_getD, List.getElem?_eq_getElem hi, ← e] <;> rfl
      rw [← e2]
      exact b2 i (by omega)
end
/-! .. by mirrors -/
def keysI : List Key → Option (List Int)
  | [] => some []
  | .inl i :: r => (keysI r).map (i :: ·)
  | .inr _ :: _ => none
theorem keysI_eq : ∀ {ks : List Key} {is : List Int}, keysI ks = some is → ks = is.map Sum.inl
  | [], is, h => by cases h; rfl
  | .inl i :: r, is, h => by
    have h' : (keysI r).map (i :: ·) = some is := h
    obtain ⟨js, e, rfl⟩ := Option.map_eq_some_iff.mp h'
    rw [keysI_eq e]; rfl
  | .inr _ :: _, _, h => by cases h
def bestD (f : Int → List Int → Int) (c : Option Oc) (ρ : Rho) : Option (Rg Ev) := match c with
  | some (.k kvs) => match keysI (kvs.map (·.1)) with
    | some (n :: ns) => some (.ok (.d (.int (f n ns))) ρ)
    | _ => none
  | _ => none
def mBestD (f : Int → List Int → Int) (me : ME) : ME := fun ρ => bd (me ρ) fun v ρ1 => bestD f (ocOf v ρ1) ρ1
section
variable {X : Cx} {e : Expr} {w : WC} {K : PySem.W.Frag} {σ : L2.St} {H : Hp} {fr : Fr} {F : Hp} {ρ : Rho} {pos : Pos}
theorem bestD_of {f : Int → List Int → Int} {me : ME} {Q : VK} (h : tE K w (mBestD f me) σ H Q) : tCB (fun (vs : List V) (H : Hp) (Q : VK) => ∃ (a : Addr) (kvs : List (Key × V)) (n : Int) (ns : List Int), vs = [V.ref a] ∧ H a = some (.dK kvs) ∧ kvs.map (·.1) = (n :: ns).map Sum.inl ∧ Q (.int (f n ns)) H) (tCons (tE K w me) tNil) σ H Q := by
  obtain ⟨fr, F, ρ, S, h⟩ := h
  refine ⟨fr, F, ρ, S, h.bd fun v1 ρ1 F1 H1 u1 S1 s1 r1 h1 => ?_⟩
  have h2 : WPg K w EvRep Q fr F1 σ (bestD f (ocOf v1 ρ1) ρ1) := h1
  unfold bestD at h2
  match e : ocOf v1 ρ1 with
  | none => rw [e] at h2; exact h2.elim
  | some (.l _) => rw [e] at h2; exact h2.elim
  | some (.t _) => rw [e] at h2; exact h2.elim
  | some (.k kvs) =>
    rw [e] at h2
    have h3 : WPg K w EvRep Q fr F1 σ (match keysI (kvs.map (·.1)) with
      | some (n :: ns) => some (.ok (.d (.int (f n ns))) ρ1)
      | _ => none) := h2
    obtain ⟨p, rfl, ks, hp, rk⟩ := ocOf_ok S1 r1 e
    match e2 : keysI (kvs.map (·.1)) with
    | none => rw [e2] at h3; exact h3.elim
    | some [] => rw [e2] at h3; exact h3.elim
    | some (n :: ns) =>
      rw [e2] at h3
      exact ⟨p, ks, n, ns, rfl, hp, by rw [rpk_keys rk]; exact keysI_eq e2, h3 F1 H1 _ S1 (Same.refl _) (.int _)⟩
theorem tCB_imp {r r' : List V → Hp → VK → Prop} {me : ME} {Q : VK} (hr : ∀ vs H Q, r vs H Q → r' vs H Q) (h : tCB r (tCons (tE K w me) tNil) σ H Q) : tCB r' (tCons (tE K w me) tNil) σ H Q := by
  obtain ⟨fr, F, ρ, S, h⟩ := h
  exact ⟨fr, F, ρ, S, h.imp fun a ρ1 F1 H1 u S1 s1 r1 q => hr _ _ _ q⟩
theorem e_minD {me : ME} {p : Pos} (hc : X.calm = true) (hg : Gl X "min") (hm : X.mg "min" = none) (hb : bootBuiltins "min" = some (.builtin "min")) (he : PE X e (tE X.K w me))
    (hs : starEach [e] X.env = (false, eval e X.env) :: starEach [] X.env := by rfl) (hpl : (backTo pos (starEach [] X.env)).any (·.1) = false := by rfl) :
    PE X (.Call (.Name "min" p) [e] [] pos) (tE X.K w (mBestD minL me)) :=
  wkE (pe_callB (cr_minK hc) hg hm hb (pa_cons he pa_nil hs) (by decide) (by decide) hs hpl) fun _ _ _ h => tCB_imp (fun vs H Q ⟨a, kvs, n, ns, e1, e2, e3, q⟩ => ⟨a, kvs, n :: ns, e1, e2, e3, List.cons_ne_nil _ _, fun m hm hl => by
    have h1 := minL_le ns n
    have h2 := minL_mem ns n
    have e : m = minL n ns := by
      have a1 := hl (minL n ns) (by rcases h2 with h2 | h2; rw [h2]; exact List.mem_cons_self; exact List.mem_cons_of_mem _ h2)
      have a2 : minL n ns ≤ m := by
        rcases List.mem_cons.mp hm with rfl | hm
        · exact h1.1
        · exact h1.2 _ hm
      omega
    rw [e]; exact q⟩) (bestD_of h)
theorem e_maxD {me : ME} {p : Pos} (hc : X.calm = true) (hg : Gl X "max") (hm : X.mg "max" = none) (hb : bootBuiltins "max" = some (.builtin "max")) (he : PE X e (tE X.K w me))
    (hs : starEach [e] X.env = (false, eval e X.env) :: starEach [] X.env := by rfl) (hpl : (backTo pos (starEach [] X.env)).any (·.1) = false := by rfl) :
    PE X (.Call (.Name "max" p) [e] [] pos) (tE X.K w (mBestD maxL me)) :=
  wkE (pe_callB (cr_maxK hc) hg hm hb (pa_cons he pa_nil hs) (by decide) (by decide) hs hpl) fun _ _ _ h => tCB_imp (fun vs H Q ⟨a, kvs, n, ns, e1, e2, e3, q⟩ => ⟨a, kvs, n :: ns, e1, e2, e3, List.cons_ne_nil _ _, fun m hm hl => by
    have h1 := maxL_ge ns n
    have h2 := maxL_mem ns n
    have e : m = maxL n ns := by
      have a1 := hl (maxL n ns) (by rcases h2 with h2 | h2; rw [h2]; exact List.mem_cons_self; exact List.mem_cons_of_mem _ h2)
      have a2 : m ≤ maxL n ns := by
        rcases List.mem_cons.mp hm with rfl | hm
        · exact h1.1
        · exact h1.2 _ hm
      omega
    rw [e]; exact q⟩) (bestD_of h)
/-! sum(range(a, b)) -/
def tSumRg (te : L2.St → Hp → (Int → Int → Hp → Prop) → Prop) : TE := fun σ H Q => te σ H fun a b H1 => RgOk a b ∧ Q (.int (preSum (fun i => a + (i : Nat) * 1) (b - a).toNat)) H1
theorem pe_sumRg {te : L2.St → Hp → (Int → Int → Hp → Prop) → Prop} {p pos : Pos} (hc : X.calm = true) (hg : Gl X "sum") (hm : X.mg "sum" = none) (hb : bootBuiltins "sum" = some (.builtin "sum")) (he : PRg X e te) (na : starEach [e] X.env = (false, eval e X.env) :: starEach [] X.env := by rfl) :
    PE X (.Call (.Name "sum" p) [e] [] pos) (tSumRg te) := by
  refine ⟨fun pins s σ H Q I h => ?_⟩
  refine Call_ (ld_blt I hg hm hb (PyProof.Rows.callWith_builtin1 (args_cons (thn (he pins s σ H _ I h) fun x s1 ⟨r, a, b, t, u, v, H1, ex, hr, I1, ok, q⟩ => args_nil ?_) na) na))
  subst ex
  obtain ⟨b1, b2, b3, b4, b5⟩ := ok
  refine call_sum_walkG (wpAny_pyIter_range hr (small_one b1 b2 b3 b4) ?_)
  refine ⟨_, _, _, _, _, _, fun i => a + (i : Nat) * 1, rfl, Walks.range (A := X.A.in1) (I1.ok.hd hc) _ a 1 (b - a).toNat, ?_, fun c hb => ?_, fun i v h => h, fun h' tk t' hk => ?_⟩
  · rw [rangeSize_nat a b]
    show IsRangeIter _ _ _ _ _
    simpa using Heap.get?_push_size _ rfl
  · rw [List.mem_singleton.mp hb]
    show _ < (s1.heap.push _).objs.size
    rw [Heap.size_push]
    exact Nat.lt_succ_self _
  · refine ⟨.int _, H1, I1.kept (t' := tk) fun c o e => hk c o (fun hm => ?_) (Heap.get?_push_of_some _ e), ⟨t', rfl⟩, q⟩
    have e1 := List.mem_singleton.mp hm
    have := Heap.lt_size e
    rw [e1] at this
    exact Nat.lt_irrefl _ this
def srR (a b : Int) (ρ : Rho) : Option (Rg Ev) := if a.natAbs ≤ 1000000 ∧ b.natAbs ≤ 1000000 then some (.ok (.d (.int (preSum (fun i => a + (i : Nat) * 1) (b - a).toNat))) ρ) else none
def mSumRange2 (ma mb : ME) : ME := fun ρ => bd (ma ρ) fun v ρ1 => match v with
  | .d (.int a) => bd (mb ρ1) fun v2 ρ2 => match v2 with
    | .d (.int b) => srR a b ρ2
    | _ => none
  | _ => none
theorem sr_of {Q : VK} {a b : Int} (S : SR K fr F σ H ρ) (h : WPg K w EvRep Q fr F σ (srR a b ρ)) : RgOk a b ∧ Q (.int (preSum (fun i => a + (i : Nat) * 1) (b - a).toNat)) H := by
  unfold srR at h
  by_cases c : a.natAbs ≤ 1000000 ∧ b.natAbs ≤ 1000000
  · rw [if_pos c] at h
    exact ⟨⟨by omega, by omega, by omega, by omega, by omega⟩, h F H _ S (Same.refl _) (.int _)⟩
  · rw [if_neg c] at h; exact h.elim
theorem e_sumRange2 {a b : Expr} {ma mb : ME} {p p2 q : Pos} (hc : X.calm = true) (hg : Gl X "sum") (hm : X.mg "sum" = none) (hbb : bootBuiltins "sum" = some (.builtin "sum")) (hg2 : Gl X "range") (hm2 : X.mg "range" = none) (ha : PE X a (tE X.K w ma)) (hb : PE X b (tE X.K w mb))
    (na : starEach [a, b] X.env = (false, eval a X.env) :: starEach [b] X.env := by rfl) (nb : starEach [b] X.env = (false, eval b X.env) :: starEach [] X.env := by rfl) (hp : (backTo q (starEach [b] X.env)).any (·.1) = false := by rfl) :
    PE X (.Call (.Name "sum" p) [.Call (.Name "range" p2) [a, b] [] q] [] pos) (tE X.K w (mSumRange2 ma mb)) :=
  wkE (pe_sumRg hc hg hm hbb (prg_2 hg2 hm2 ha hb na nb hp)) fun σ H Q ⟨fr, F, ρ, S, h⟩ => by
    refine ⟨fr, F, ρ, S, h.bd fun v1 ρ1 F1 H1 u1 S1 s1 r1 h1 => ?_⟩
    match v1, r1, h1 with
    | .d (.int n), r1, h1 =>
      cases r1
      have h1' : WPg X.K w EvRep Q fr F1 σ (bd (mb ρ1) fun v2 ρ2 => match v2 with
        | .d (.int b) => srR n b ρ2
        | _ => none) := h1
      refine ⟨fr, F1, ρ1, S1, h1'.bd fun v2 ρ2 F2 H2 u2 S2 s2 r2 h2 => ?_⟩
      match v2, r2, h2 with
      | .d (.int m), r2, h2 =>
        cases r2
        exact ⟨n, m, rfl, rfl, sr_of S2 h2⟩
      | .b _, r2, h2 => exact h2.elim
      | .o _, r2, h2 => exact h2.elim
      | .d .none, r2, h2 => exact h2.elim
      | .d (.bool _), r2, h2 => exact h2.elim
      | .d (.str _), r2, h2 => exact h2.elim
      | .d (.list _), r2, h2 => exact h2.elim
      | .d (.tuple _), r2, h2 => exact h2.elim
      | .d (.dict _), r2, h2 => exact h2.elim
    | .b _, r1, h1 => exact h1.elim
    | .o _, r1, h1 => exact h1.elim
    | .d .none, r1, h1 => exact h1.elim
    | .d (.bool _), r1, h1 => exact h1.elim
    | .d (.str _), r1, h1 => exact h1.elim
    | .d (.list _), r1, h1 => exact h1.elim
    | .d (.tuple _), r1, h1 => exact h1.elim
    | .d (.dict _), r1, h1 => exact h1.elim
@[simp] theorem mSumRange2_ap {ma mb : ME} : mSumRange2 ma mb ρ = bd (ma ρ) fun v ρ1 => match v with
  | .d (.int a) => bd (mb ρ1) fun v2 ρ2 => match v2 with
    | .d (.int b) => srR a b ρ2
    | _ => none
  | _ => none := rfl
@[simp] theorem mBestD_ap {f : Int → List Int → Int} {me : ME} : mBestD f me ρ = bd (me ρ) fun v ρ1 => bestD f (ocOf v ρ1) ρ1 := rfl
theorem srR_eq (m n : Nat) {a b : Int} (ha : a = m) (hb : b = n) (hm : m ≤ 1000000) (hn : n ≤ 1000000) : srR a b ρ = some (.ok (.d (.int (((List.range (n - m)).map fun k => m + k).sum : Nat))) ρ) := by
  unfold srR
  rw [if_pos (by omega), ha, hb, show ((n : Int) - (m : Int)).toNat = n - m by omega]
  congr 4
  generalize n - m = k
  induction k with
  | zero => rfl
  | succ k ih =>
    rw [List.range_succ, List.map_append, List.sum_append]
    show preSum _ k + ((m : Int) + (k : Nat) * 1) = _
    rw [ih]
    simp
end
end Pv

/-! raise; lambdas handed to a def that calls them in a try; the law's end with tables of code objects -/
namespace Pv
open PySem PySem.Spec PyProof.Rows L2
section
variable {X : Cx} {w : WC} {K : PySem.W.Frag} {fr : Fr} {F : Hp} {σ : L2.St} {H : Hp} {ρ : Rho} {pos pos2 p p2 : Pos}
/-- raise X("..") -/
def mRaise (x : Str) : MS := fun ρ => some (.er (x, none) ρ)
@[simp] theorem mRaise_ap {x : Str} : mRaise x ρ = some (.er (x, none) ρ) := rfl
theorem s_raise {x m : Str} {j : Nat} {C : Addr} {bmB : List Value} {B newId initId : String} (hc : X.calm = true) (tk : Takes X w.W) (Fb : ExcBaseFacts B newId initId bmB) (q : PySem.W.excIn X.K C bmB newId = true) (gC : X.mg x = some (.ref C)) (kC : PySem.W.keepIn X.K (.ref C) = true)
    (r1 : PySem.W.subIn X.K (.ref C) (.type "BaseException") = some true) (r2 : PySem.W.typeIn X.K (.ref C) = some (.type "type")) (hX : ∀ H, w.XR (x, none) (.ref C) none H) (hg : Gl X x) (hdb : (x == ("__debug__" : Str)) = false := by decide) :
    PS X (.Raise (some (.Call (.Name x p) [.Constant (.str m) j p2] [] pos)) none pos2) (tS X.K w (mRaise x)) :=
  wkS (ps_raise hc tk (pmk_own Fb q gC kC (raises_own r1 r2) hg hdb)) fun D σ H ⟨fr, F, ρ, S, h⟩ => h F σ H _ _ S (Same.refl _) (hX H)
theorem SR.extN {H1 : Hp} (S : SR K fr F σ H ρ) (e : LamX.ExtN H H1) (t : LamX.Tabs (tabsOf K) H1) : SR K fr F σ H1 ρ := by
  refine ⟨S.len, fun b o z => e b o (S.sF _ _ z) fun ps q => S.x.fq b ps (by rw [z, q]), fun b o z => e b o (S.sZ _ _ z) fun ps q => fr.nq b ps (by rw [z, q]), S.dj, S.sA, fun i s z => ?_, S.inj, ⟨t, S.x.fq⟩⟩
  have h := S.sl i s z
  have up : ∀ {p : Addr} {c : Oc}, OcRep F H p c → OcRep F H1 p c := fun {p c} r => by
    cases c <;> (obtain ⟨vs, a, b⟩ := r; exact ⟨vs, e _ _ a (fun _ q => nomatch q), b⟩)
  cases s with
  | no => trivial
  | d x => exact h
  | o c => obtain ⟨q, a, b, d, r⟩ := h; exact ⟨q, a, b, d, up r⟩
  | r c => obtain ⟨q, y, a, b, d, r⟩ := h; exact ⟨q, y, a, b, d, up r⟩
  | scr ns => exact h
/-- what the def that gets a lambda makes of its outcome -/
def mTold (g : Option Ex → Option PyData) (mb : ME) : ME := fun ρ => match mb ρ with
  | some (.ok _ ρ1) => (g none).map fun r => .ok (.d r) ρ1
  | some (.er x ρ1) => (g (some x)).map fun r => .ok (.d r) ρ1
  | none => none
@[simp] theorem mTold_ap {g : Option Ex → Option PyData} {mb : ME} : mTold g mb ρ = match mb ρ with
  | some (.ok _ ρ1) => (g none).map fun r => .ok (.d r) ρ1
  | some (.er x ρ1) => (g (some x)).map fun r => .ok (.d r) ρ1
  | none => none := rfl
/-- .. as a promise -/
def TTg (XR : XRT) (g : Option Ex → Option PyData) : (XK → Hp → VK → Prop) → Hp → VK → Prop := fun tl H Q =>
  tl (fun cls d H' => ∃ x r, XR x cls d H' ∧ g (some x) = some r ∧ scalar r = true ∧ Q (toV r) H') H fun _ H' => ∃ r, g none = some r ∧ scalar r = true ∧ Q (toV r) H'
theorem told_of {XR : XRT} {g : Option Ex → Option PyData} {mb : ME} {Q : VK} (hs : ∀ x r, g x = some r → scalar r = true) (h : tE K w (mTold g mb) σ H Q) :
    LamX.tLam (tabsOf K) (TTg XR g) (fun E => tE K ⟨fun c d _ H' => E c d H', XR⟩ mb) σ H Q := by
  obtain ⟨fr, F, ρ, S, h⟩ := h
  refine ⟨S.x.tb, fun H1 e t => ?_⟩
  have S1 := S.extN e t
  refine ⟨fr, F, ρ, S1, ?_⟩
  have h' : WPg K w EvRep Q fr F σ (match mb ρ with
    | some (.ok _ ρ1) => (g none).map fun r => .ok (.d r) ρ1
    | some (.er x ρ1) => (g (some x)).map fun r => .ok (.d r) ρ1
    | none => none) := h
  match em : mb ρ with
  | none => rw [em] at h'; exact h'.elim
  | some (.ok v ρ1) =>
    rw [em] at h'
    intro F' H' b S' sm rel
    have h2 : WPg K w EvRep Q fr F σ ((g none).map fun r => .ok (.d r) ρ1) := h'
    cases eg : g none with
    | none => rw [eg] at h2; exact h2.elim
    | some r =>
      rw [eg] at h2
      exact ⟨r, rfl, hs _ _ eg, h2 F' H' _ S' sm (Rp.sc (hs _ _ eg))⟩
  | some (.er x ρ1) =>
    rw [em] at h'
    intro F' H' c d S' sm rel
    have h2 : WPg K w EvRep Q fr F σ ((g (some x)).map fun r => .ok (.d r) ρ1) := h'
    cases eg : g (some x) with
    | none => rw [eg] at h2; exact h2.elim
    | some r =>
      rw [eg] at h2
      exact ⟨x, r, rel, eg, hs _ _ eg, h2 F' H' _ S' sm (Rp.sc (hs _ _ eg))⟩
theorem mem_tabs {n : Str} {c P : Addr} (hn : n ∈ lamNames) (h : PySem.W.tabIn K n = some (c, P)) : (P, n ++ (".<locals>." : Str) ++ ("<lambda>" : Str)) ∈ tabsOf K :=
  List.mem_filterMap.mpr ⟨n, hn, by rw [h]; rfl⟩
/-- no other of these defs has this table -/
def tabUniq (K : PySem.W.Frag) (n : Str) (P : Addr) : Bool := lamNames.all fun m => m == n || match PySem.W.tabIn K m with
  | some p => p.2 != P
  | none => true
theorem tabUniq_of {n : Str} {P : Addr} (h : tabUniq K n P = true) : ∀ p ∈ tabsOf K, p.1 = P → p.2 = n ++ (".<locals>." : Str) ++ ("<lambda>" : Str) := fun p hp e => by
  obtain ⟨m, hm, q⟩ := List.mem_filterMap.mp hp
  obtain ⟨r, hr, er⟩ := Option.map_eq_some_iff.mp q
  have z := List.all_eq_true.mp h m hm
  rw [hr, Bool.or_eq_true] at z
  rcases z with z | z
  · rw [← er, eq_of_beq z]
  · subst er
    have z' : (r.2 != P) = true := z
    simp at z'
    exact absurd e z'
theorem fn_anyXR {P : Program} {w : World} {mg : Str → Option Value} {base : Heap} {CX : CXT} {k n : Nat} {f : Addr} {fd : FuncData} {ps : List Str} {XR : XRT} {m : MF} (G : FnOk P w K mg base CX k f fd ps (spF K w0.XR n m)) : FnOk P w K mg base CX k f fd ps (spF K XR n m) := by
  refine G.imp (fun vs H Q E h => ?_)
  obtain ⟨hl, fr, F, ρ, hP, S, h⟩ := h
  refine ⟨hl, fr, F, ρ, hP, S, ?_⟩
  replace h : WPg K ⟨fun c d _ H' => E c d H', XR⟩ EvRep Q fr F (vs.map some) (m ρ) := h
  match e : m ρ with
  | none => rw [e] at h; exact h.elim
  | some (.ok v ρ') => rw [e] at h; exact h
  | some (.er x ρ') => exact fun _ _ _ _ _ _ z => z.elim
theorem tabIn_of {n : Str} {f tc P : Addr} {oc e cd : Value} {od o : Option Addr} {osl sl : Array (Option Value)} {vs : Array Value} {fd : FuncData} (a : PySem.W.nsIn K mainGlobals n = some (some (.ref f)))
    (l : K.lookup f = some ⟨oc, od, .func fd, osl⟩) (hcd : fd.code = cd) (td : cd = .ref tc) (tl : K.lookup tc = some ⟨e, o, .fields vs, sl⟩) (tv : (vs[11]? : Option Value) = some (.ref P)) : PySem.W.tabIn K n = some (tc, P) := by
  subst td
  unfold PySem.W.tabIn
  rw [a]
  show (match K.lookup f with
    | some ⟨_, _, .func fd, _⟩ => (match fd.code with
      | .ref c => (match K.lookup c with
        | some ⟨_, _, .fields vs, _⟩ => (match (vs[11]? : Option Value) with
          | some (.ref P) => some (c, P)
          | _ => none)
        | _ => none)
      | _ => none)
    | _ => none) = some (tc, P)
  rw [l]
  show (match fd.code with
      | .ref c => (match K.lookup c with
        | some ⟨_, _, .fields vs, _⟩ => (match (vs[11]? : Option Value) with
          | some (.ref P) => some (c, P)
          | _ => none)
        | _ => none)
      | _ => none) = some (tc, P)
  rw [hcd]
  show (match K.lookup tc with
        | some ⟨_, _, .fields vs, _⟩ => (match (vs[11]? : Option Value) with
          | some (.ref P) => some (tc, P)
          | _ => none)
        | _ => none) = some (tc, P)
  rw [tl]
  show (match (vs[11]? : Option Value) with
          | some (.ref P) => some (tc, P)
          | _ => none) = some (tc, P)
  rw [tv]
theorem tabIn_none {n : Str} (h : PySem.W.nsIn K mainGlobals n = some none) : PySem.W.tabIn K n = none := by
  unfold PySem.W.tabIn; rw [h]
theorem tabUniq_by {n : Str} {P : Addr} (h : ∀ m ∈ lamNames, m = n ∨ ∀ p, PySem.W.tabIn K m = some p → (p.2 != P) = true) : tabUniq K n P = true := by
  refine List.all_eq_true.mpr fun m hm => ?_
  rcases h m hm with rfl | z
  · simp
  · rw [Bool.or_eq_true]
    refine .inr ?_
    cases e : PySem.W.tabIn K m with
    | none => rfl
    | some p => exact z p e
/-- x(lambda: body), x the def that calls it in a try -/
theorem e_told {XR : XRT} {g : Option Ex → Option PyData} {mb : ME} {x a n : Str} {gf c P : Addr} {fd : FuncData} {st : Stmt} {Ng : List Str} {k : Nat} {params : Arguments} {body : Expr} {scope : Scope} {lpos : Pos} (hs : ∀ x r, g x = some r → scalar r = true)
    (hg : Gl X x) (hm : X.mg x = some (.ref gf)) (Fg : Fun X.K x x st gf fd) (hb : L2.Binds X.K fd [a] []) (Sg : FnScope Ng [a] (defScope st)) (hNg : Ng[0]? = some a) (hva : Vis (defScope st) a)
    (hn : n ∈ lamNames) (hq : X.env.qual = n ++ (".<locals>." : Str)) (ht : PySem.W.tabIn X.K n = some (c, P)) (hu : tabUniq X.K n P = true)
    (hG : ∀ cdv, LamX.GivesTo X Ng x (defScope st) gf cdv (defBody st) a (X.env.qual ++ "<lambda>") (TTg XR g))
    (TB : LamX.TabB X.base X.mg c P) (hcode : X.env.code = .ref c) (hr : Room (k + 2) X.A) (L : LamX.LamS X.env.scope scope) (hdef : defaultsOf params X.env = ([], []))
    (hbind : ∀ (q : Str) (cl : List (Str × Addr)) (pm cv ctv : Value), bindArgs (PySem.W.kla_fn "<lambda>" q params body scope cl pm cv ctv) ⟨[], []⟩ = pure [])
    (hbody : ∀ (A : Around) (outer : List Env) (s : Shared) (H : Hp) (E : XK) (f c' : Addr), Room k (A.deeper (LamX.lamEnv X scope s.heap.objs.size f c')) → PE (LamX.lamCx X A outer s H E scope f c') body (tE X.K ⟨fun c d _ H' => E c d H', XR⟩ mb))
    (hdb : (x == ("__debug__" : Str)) = false := by decide) (hd : (a == ("__debug__" : Str)) = false := by decide) (hcd : (a == ("__classdict__" : Str)) = false := by decide) :
    PE X (.Call (.Name x p) [.Lambda params body scope lpos] [] pos) (tE X.K w (mTold g mb)) := by
  obtain ⟨oc, od, kV, doc, pm, an, cdv, ct, osl, efd, lk, hcg⟩ := Fg.ex
  subst efd
  have hmT : (P, X.env.qual ++ "<lambda>") ∈ tabsOf X.K := by rw [hq]; exact mem_tabs hn ht
  have hu' : ∀ p ∈ tabsOf X.K, p.1 = P → p.2 = X.env.qual ++ "<lambda>" := fun p hp e => by rw [hq]; exact tabUniq_of hu p hp e
  exact wkE (LamX.pe_lamcall (T := tabsOf X.K) (t := fun E => tE X.K ⟨fun c d _ H' => E c d H', XR⟩ mb) hg hm Fg.kp lk hcg hb Sg hNg hva (hG cdv) TB hcode hmT hu' hr L hdef hbind hbody hdb hd hcd) fun _ _ _ h => told_of hs h
theorem exm_of {C : Addr} {cls : Value} {b : Bool} (h1 : PySem.W.subIn K (.ref C) (.type "BaseException") = some true) (h2 : PySem.W.isClsIn K C = true) (h3 : PySem.W.typeIn K (.ref C) = some (.type "type")) (h4 : PySem.W.subIn K cls (.ref C) = some b) : PySem.W.exmOne K cls (.ref C) = some b := by
  unfold PySem.W.exmOne
  rw [if_pos (by rw [h1]; rfl)]
  unfold PySem.W.kitCls
  show (if ((PySem.W.clsIn K C).isSome && PySem.W.typeIn K (.ref C) == some (.type "type")) = true then PySem.W.subIn K cls (.ref C) else none) = some b
  have h2' : (PySem.W.clsIn K C).isSome = true := h2
  rw [if_pos (by rw [h2', h3]; rfl), h4]
theorem takes_len {W : WX} (t : Takes X W) : Takes X (fun c d σ H => σ.length = X.N.length → W c d σ H) := fun u s' ⟨a, B, sI, pins, σ, H, cls, d, e, I, nb, up, sky, na, os, ag, w⟩ =>
  t u s' ⟨a, B, sI, pins, σ, H, cls, d, e, I, nb, up, sky, na, os, ag, w I.len⟩
/-- a def whose code object is told -/
theorem fn_okC {P : Program} {w : World} {mg : Str → Option Value} {base : Heap} {x qual : Str} {st : Stmt} {f : Addr} {fd : FuncData} {N ps : List Str} {k : Nat} {mb : MS} (F : Fun K x qual st f fd) (S : FnScope N ps (defScope st)) (XR : XRT)
    (hb : ∀ (cdv : Value) (A : Around) (outer : List Env) (s : Shared) (H : Hp) (E : XK), fd.code = cdv → Room k (A.deeper (envOfC qual (defScope st) s.heap.objs.size f cdv)) →
      PSs (cxOf CX0 P w K mg base N qual (defScope st) f cdv A outer s H E).nox (defBody st) (tS K w0 mb)) : FnOk P w K mg base CX0 (k + 1) f fd ps (spF K XR ps.length (mFun0 ps.length N.length mb)) := by
  obtain ⟨oc, od, kV, doc, pm, an, cdv, ct, osl, efd, lk, hcd⟩ := F.ex
  have hc : fd.code = cdv := by rw [efd]
  subst efd
  refine fn_of lk hcd S (fun _ _ _ _ h => h.1) fun A outer s H vs Q E hr h => ?_
  exact ⟨_, (hb cdv A outer s H E hc hr).nox, body0_of h⟩
end
/-! the end -/
theorem walkT {l : PySem.W.OpenLaw} {k : Nat} {q : Program} {loose : List Str} {XP : (Str → Option Value) → Heap → Prop} {YP : World → Heap → Prop} {d : DefRec} {K : Params → PySem.W.Frag} {x : Str}
    (hn : l.most = some 63) (hdf : d.params.defaults = []) (hr : Room k callerA) (hY : ∀ (w : World) (h : Heap), YP w h → (K w.params).In h)
    (F : ∀ (w : World) (mg : Str → Option Value) (fa : Addr) (h : Heap), (K w.params).In h → h.Ns mainGlobals mg → mg d.name = some (.ref fa) →
      (∀ n ∈ lamNames, ∀ c P, PySem.W.tabIn (K w.params) n = some (c, P) → (K w.params).lookup P = none ∧ ((recsOf q).any fun e => e.name == n) = true) ∧
      ∃ fd : FuncData, (∀ (s : Shared) (u : Value), BindsTo s fd ⟨[u], []⟩ [(x, u)]) ∧ ∀ base : Heap, (K w.params).In base → base.Ns mainGlobals mg → (∀ n ∈ lamNames, ∀ c P, PySem.W.tabIn (K w.params) n = some (c, P) → LamX.TabB base mg c P) →
        FnOk l.prog w (K w.params) mg base CX0 k fa fd [x] (spLawT (K w.params))) :
    PySem.W.WalkO q loose XP YP l.row.toRowW d [] (fun f vs => PySem.call f vs) := by
  refine Att.attach_callB hn hdf fun w s₀ s₁ mg mb fa o pm cd doc a vs ns G Y ho hd hcd hmg hobj hints hlen hbits hg => ?_
  have KX := hY w _ Y
  obtain ⟨hz, fd, hb, hF⟩ := F w mg fa _ KX G.T.g hmg
  have tab : ∀ n ∈ lamNames, ∀ c P, PySem.W.tabIn (K w.params) n = some (c, P) → PySem.W.CodeHd s₁.heap c P ∧ s₁.heap.get? P = some { cls := .none, data := .fields #[] } := fun n hn c P h => by
    obtain ⟨_, hr⟩ := hz n hn c P h
    have hsome : ((recsOf q).find? fun e => e.name == n).isSome = true := by rw [List.find?_isSome]; exact List.any_eq_true.mp hr
    obtain ⟨dd, hdd⟩ := Option.isSome_iff_exists.mp hsome
    exact PySem.W.tab_of G.T KX hdd h
  have mem : ∀ {p : Addr × Addr}, p ∈ lamNames.filterMap (PySem.W.tabIn (K w.params)) → ∃ n ∈ lamNames, PySem.W.tabIn (K w.params) n = some p := fun {p} hp => by
    obtain ⟨n, h1, h2⟩ := List.mem_filterMap.mp hp
    exact ⟨n, h1, h2⟩
  refine LamX.law_callTs (cs := lamNames.filterMap (PySem.W.tabIn (K w.params))) (sp := spLawT (K w.params)) KX G.T.g G.T.b G.T.builtins G.T.nolimit hg (fun p hp => ?_) (fun p hp => ?_) (fun p hp => ?_) G.T.bmain hobj hints (Nat.le_trans hlen (by decide)) hr (fun base hB hN hT => hF base hB hN fun n hn c P h => hT (c, P) (List.mem_filterMap.mpr ⟨n, hn, h⟩)) hb
    (fun H hH hS => ⟨a, ns, rfl, hS, hlen, fun p hp => ?_, fun _ => rfl⟩) fun _ _ _ h => h
  · obtain ⟨n, h1, h2⟩ := mem hp
    exact (tab n h1 _ _ h2).2
  · obtain ⟨n, h1, h2⟩ := mem hp
    exact (hz n h1 _ _ h2).1
  · obtain ⟨n, h1, h2⟩ := mem hp
    exact (tab n h1 _ _ h2).1
  · obtain ⟨n, h1, h2⟩ := List.mem_filterMap.mp hp
    obtain ⟨r, h3, h4⟩ := Option.map_eq_some_iff.mp h2
    subst h4
    exact LamX.TabS.nil (hH r (List.mem_filterMap.mpr ⟨n, h1, h3⟩))
end Pv

/-! an own exception with a field: its __init__, the raise of it; several except clauses, the last one of which may keep the exception -/
namespace Pv
open PySem PySem.Spec PyProof.Rows L2
section
variable {X : Cx} {w : WC} {K : PySem.W.Frag}
/-- D.__init__(self, ..) in the __init__ of a class under D: D an own class that leaves __init__ to ValueError -/
theorem pe_upInit {x : Str} {D : Addr} {e : Expr} {es : List Expr} {ta : TA} {p1 p2 pos : Pos} {pl : Sem Bool} (hg : Gl X x) (hm : X.mg x = some (.ref D)) (rd : PySem.W.readsIn X.K D (.type "type") = true)
    (ga : PySem.W.specialIn X.K (.ref D) "__getattribute__" = some (some (.builtin "type.__getattribute__"))) (vV : PySem.W.findCls X.K (.ref D) (.type "type") "__init__" = some (.val (.builtin "ValueError.__init__")))
    (ha : PA X (e :: es) ta) (hdb : (x == ("__debug__" : Str)) = false := by decide)
    (hc : eval (.Call (.Attribute (.Name x p1) "__init__" p2) (e :: es) [] pos) X.env = (do
      let ov ← eval (.Name x p1) X.env; standAt p2.atName
      let (f, first) ← holding [ov] (getMethod ov "__init__" pl); callWith pos f first (backTo pos (starEach (e :: es) X.env)) (backToKw pos (keywordEach [] X.env))) := by rfl)
    (he : starEach (e :: es) X.env = (false, eval e X.env) :: starEach es X.env := by rfl) (hpl : (backTo pos (starEach es X.env)).any (·.1) = false := by rfl) : PE X (.Call (.Attribute (.Name x p1) "__init__" p2) (e :: es) [] pos) (tVeI X.K ta) :=
  ⟨fun pins s σ H Q I h => PySem.W.methodCall_KW (ld_glob I hg hm (PySem.W.method_cls I.kIn ga (PySem.W.cls_value I.kIn rd vV rfl (by
    refine PyProof.Rows.callWith_method1 (thn (ha.run pos pins _ σ H _ (I.tok _) h) fun us s1 hh => ?_) he hpl
    obtain ⟨vs, H1, J, rel, a, C, ws, ev, hl, T, ea, q⟩ := hh
    subst ev
    match us, rel with
    | _ :: ur, .cons ra rw' =>
      cases (show _ = Value.ref a from ra)
      have hn := Paired.length rw'
      exact oinit_ok T J ea (by rw [← hn, sizeLine_eq]; omega) fun s' J' => ⟨.non, H1, J', rfl, q⟩))) hdb) hc⟩
/-- what such an __init__ keeps: it calls the upper __init__ and sets the field -/
def spIni (K : PySem.W.Frag) (f : Str) : Sp := fun vs H Q _ => ∃ (a C : Addr) (n : Int), vs = [.ref a, .int n] ∧ OexC K C ∧ PySem.W.findIn K (.ref C) f = some none ∧ H a = some (exo a C none) ∧ ∀ dx, H dx = none → dx ≠ a → Q .non (upd (upd H dx (exd dx [(f, .int n)])) a (exo a C (some dx)))
theorem spIni_len {f : Str} {vs : List V} {H : Hp} {Q : VK} {E : XK} (h : spIni K f vs H Q E) : vs.length = 2 := by
  obtain ⟨a, C, n, rfl, _⟩ := h; rfl
/-- raise C(e): C's __init__ as told -/
def mRaiseI (x : Str) (me : ME) : MS := fun ρ => bS (me ρ) fun v ρ1 => match rd v ρ1 with
  | some (.int n) => some (.er (x, some n) ρ1)
  | _ => none
@[simp] theorem mRaiseI_ap {x : Str} {me : ME} {ρ : Rho} : mRaiseI x me ρ = bS (me ρ) fun v ρ1 => match rd v ρ1 with
  | some (.int n) => some (.er (x, some n) ρ1)
  | _ => none := rfl
theorem s_raiseI {x f : Str} {C fI : Addr} {k : Nat} {fd : FuncData} {ps : List Str} {e : Expr} {me : ME} {p pos pos2 : Pos} (hc : X.calm = true) (tk : Takes X w.W) (T : OexC X.K C) (hf : PySem.W.findIn X.K (.ref C) f = some none) (iC : PySem.W.findIn X.K (.ref C) "__init__" = some (some (.ref fI)))
    (tI : PySem.W.typeIn X.K (.ref fI) = some (.type "function")) (F1 : FnOk X.prog X.w X.K X.mg X.base CX0 k fI fd ps (spIni X.K f)) (hr : Room (k + 1) X.A) (hb : Binds X.K fd ps []) (hg : Gl X x) (hm : X.mg x = some (.ref C)) (hX : ∀ (n : Int) H dd, H dd = some (.xd [(f, .int n)]) → w.XR (x, some n) (.ref C) (some dd) H)
    (he : PE X e (tE X.K w me)) (hdb : (x == ("__debug__" : Str)) = false := by decide) (hs : starEach (e :: []) X.env = (false, eval e X.env) :: starEach [] X.env := by rfl) (hpl : (backTo pos (starEach [] X.env)).any (·.1) = false := by rfl) :
    PS X (.Raise (some (.Call (.Name x p) [e] [] pos)) none pos2) (tS X.K w (mRaiseI x me)) := by
  refine wkS (ps_raise hc tk (pmk_oex T iC tI F1 hr hb Paired.nil C8.pass0 hg hm (pa_cons he pa_nil hs) hdb hs hpl)) fun D σ H ⟨fr, F, ρ, S, h⟩ => ?_
  refine ⟨fr, F, ρ, S, h.bd (rel := EvRep) S fun v ρ1 F1 H1 u S1 s1 r1 h1 => ?_⟩
  have h2 : WPs X.K w D fr F1 (match rd v ρ1 with
    | some (.int n) => some (.er (x, some n) ρ1)
    | _ => none) := h1
  cases e : rd v ρ1 with
  | none => rw [e] at h2; exact h2.elim
  | some y =>
    match y, e, h2 with
    | .int n, e, h2 =>
      rw [e] at h2
      have hu : u = .int n := by
        exact Vw.sc (x := .int n) rfl (rd_ok S1 r1 e)
      subst hu
      refine ⟨Nat.le_add_left 1 999, fun a ha => ⟨a, C, n, rfl, T, hf, upd_same, fun dx hdx hne => ⟨rfl, dx, [(f, .int n)], upd_same, by rw [upd_ne hne, upd_same], by rw [upd_ne hne] at hdx; exact hdx, ?_⟩⟩⟩
      rw [upd_ne hne] at hdx
      have eh : upd (del (upd (upd (upd H1 a (exo a C none)) dx (exd dx [(f, .int n)])) a (exo a C (some dx))) a) dx (.xd [(f, .int n)]) = upd H1 dx (.xd [(f, .int n)]) := by
        funext b
        by_cases hb : b = dx
        · rw [hb, upd_same, upd_same]
        · rw [upd_ne hb, upd_ne hb]
          by_cases hba : b = a
          · rw [hba, del_same, ha]
          · rw [del_ne hba, upd_ne hba, upd_ne hb, upd_ne hba]
      rw [eh]
      exact h2 F1 σ _ _ _ (S1.newO hdx).1 (Same.refl _) (hX n _ dx upd_same)
    | .none, e, h2 => rw [e] at h2; exact h2.elim
    | .bool _, e, h2 => rw [e] at h2; exact h2.elim
    | .str _, e, h2 => rw [e] at h2; exact h2.elim
    | .list _, e, h2 => rw [e] at h2; exact h2.elim
    | .tuple _, e, h2 => rw [e] at h2; exact h2.elim
    | .dict _, e, h2 => rw [e] at h2; exact h2.elim
end
/-! ### except clauses, some of which keep the exception -/
section
variable {X : Cx} {pins : List (Addr × Obj)} {σ : L2.St} {H : Hp} {a : Addr} {cls : Value} {d : Option Addr} {B : Heap} {sI s : Shared} {D : Ends}
/-- an exception of the body stands before the clauses -/
structure Caught (X : Cx) (pins : List (Addr × Obj)) (σ : L2.St) (H : Hp) (a : Addr) (cls : Value) (d : Option Addr) (B : Heap) (sI s : Shared) : Prop where
  inv : Inv X pins σ H sI
  old : ∀ b o, sI.heap.get? b = some o → b ∉ frs X.stack → B.get? b = some o
  up : sI.heap.UpToSlots s.heap
  fly : HandSPX.FlyingZ B (X.env :: X.outer) a (Zc cls d) s.heap
  no : H a = none
  os : s.os = sI.os
  bare : AllBare s.gens
/-- the clauses serve the wish W -/
def Serves (X : Cx) (hds : List ExceptHandler) (D : Ends) (W : WX) : Prop := ∀ pins σ H a cls d B sI s, Caught X pins σ H a cls d B sI s → W cls d σ H → wpAny (model X.prog X.w) X.A (handleBy (.ref a) X.env hds) (SP X pins D) X.xe s
theorem Caught.now (c : Caught X pins σ H a cls d B sI s) : Inv X pins σ H s := c.inv.landed c.old c.fly.1 c.up c.os c.bare
theorem Caught.inside (c : Caught X pins σ H a cls d B sI s) (hf : X.env.frame = some X.env.locals) :
    ∃ oe vs, s.heap.get? a = some oe ∧ Zc cls d oe ∧ oe.data = .fields vs ∧ Inv (X.suite a ((a, oe) :: (X.pn ++ pins))) [] σ H s := by
  obtain ⟨oe, vs, e1, e2, e3⟩ := c.fly.there
  have out : a ∉ frs (X.env :: X.outer) := fun m => by
    obtain ⟨_, o, e, q⟩ := c.fly.2.2.1.mem m
    cases e1.symm.trans e
    exact q _ e3
  have out2 : ∀ en ∈ X.env :: X.outer, en.frame ≠ some a := fun en hen z => out (List.mem_filterMap.mpr ⟨en, hen, z⟩)
  exact ⟨oe, vs, e1, e2, e3, c.now.suite e1 e3 c.no (fun z => out2 X.env List.mem_cons_self (by rw [hf, z])) fun m => by
    obtain ⟨en, hen, z⟩ := List.mem_filterMap.mp m
    exact out2 en (List.mem_cons_of_mem _ hen) z⟩
/-- the test of a clause -/
theorem Caught.asks {x : Str} {C : Value} {b : Bool} {np p : Pos} {R : Result → Shared → Prop} (c : Caught X pins σ H a cls d B sI s) (hf : X.env.frame = some X.env.locals) (hc : Names X x C) (hb : PySem.W.exmOne X.K cls C = some b)
    (h : R (.ok (if b then .brk else .next)) s) : codeAny (model X.prog X.w) (X.A.mark (some (.ref a))) (.handlers (.ref a) [.ExceptHandler (some (.Name x np)) none [] p] X.env) R s := by
  obtain ⟨oe, vs, e1, e2, e3, S⟩ := c.inside hf
  have L := PySem.W.exm_one (M := model X.prog X.w) c.now.kIn (fun A Q E t k q => wpAny_typeOf_ref (k _ _ e1) (by rw [e2.1]; exact q)) hb
  refine codeAny_handlers_test ?_
  rcases hc with ⟨hg, hd, hm | ⟨hm, hv, hn⟩⟩
  · exact ld_glob S hg hm (L.here h) hd
  · exact ld_blt S hg hm hv (L.here h) hn hd
/-- no clause is left -/
theorem serves_nil {W : WX} (hs : X.stack = X.env :: X.outer) (hf : X.env.frame = some X.env.locals) (tk : Takes X W) : Serves X [] D W := fun pins σ H a cls d B sI s c w => by
  refine wpAny_handleBy_nil ?_
  obtain ⟨_, _, _, oe, vs, T, _, _, e1, _, e3, e4, _⟩ := id c.fly
  have out : wpAny (model X.prog X.w) X.A (setFlight (.ref a) X.env.frame) (fun _ s4 => wpAny (model X.prog X.w) X.A (throw (.ref a) : Sem Flow) (SP X pins D) X.xe s4) X.xe s := by
    rw [hf]
    exact HandSPX.setFlight_upZ c.fly fun h4 hh u => wpAny_throw (tk _ _ ⟨a, B, sI, pins, σ, H, cls, d, rfl, c.inv, c.old, c.up.trans u, .inr (.inr (by rw [hs]; exact hh)), c.no, c.os, c.bare, w⟩)
  unfold PySem.passOn
  refine wpAny_bind (wpAny_field e1 e3 e4 ?_)
  rw [if_neg (show ¬ ((Value.ref T == Value.none) = true) by simp)]
  first
    | exact wpAny_bind (wpAny_pure (wpAny_bind out))
    | exact wpAny_bind out
theorem SP.out {q : Addr × Obj} {f : Flow} {s' : Shared} (ok : X.Ok) (h : SP (X.suite a (q :: (X.pn ++ pins))) [] D f s') : SP X pins D f s' := by
  match f, h with
  | .next, ⟨τ, G, I, z⟩ => exact ⟨τ, G, I.unsuite ok, z⟩
  | .brk, ⟨τ, G, I, z⟩ => exact ⟨τ, G, I.unsuite ok, z⟩
  | .cont, ⟨τ, G, I, z⟩ => exact ⟨τ, G, I.unsuite ok, z⟩
  | .ret u, ⟨v, τ, G, I, r, z⟩ => exact ⟨v, τ, G, I.unsuite ok, r, z⟩
abbrev SuiteOk (X : Cx) (sts : List Stmt) (ts : Addr → Value → Option Addr → TS) : Prop := ∀ (a : Addr) (oe : Obj) (cls : Value) (d : Option Addr) (pn : List (Addr × Obj)), Zc cls d oe → (∃ vs, oe.data = .fields vs) → PSs (X.suite a ((a, oe) :: pn)) sts (ts a cls d)
/-- the clause takes the exception, or leaves it to W -/
def wOr (K : PySem.W.Frag) (C : Value) (yes : Addr → WX) (W : WX) : WX := fun cls d σ H => ∃ b, PySem.W.exmOne K cls C = some b ∧ (b = true → ∀ a, H a = none → yes a cls d σ H) ∧ (b = false → W cls d σ H)
theorem Caught.again {h' : Heap} (c : Caught X pins σ H a cls d B sI s) (fl : HandSPX.FlyingZ B (X.env :: X.outer) a (Zc cls d) h') (u : s.heap.UpToSlots h') : Caught X pins σ H a cls d B sI { s with heap := h' } :=
  ⟨c.inv, c.old, c.up.trans u, fl, c.no, c.os, c.bare⟩
theorem serves_only {x : Str} {C : Value} {ts : Addr → Value → Option Addr → TS} {b₀ : Stmt} {suite : List Stmt} {hds : List ExceptHandler} {np p : Pos} {W : WX} (hf : X.env.frame = some X.env.locals) (hc : Names X x C) (hsu : SuiteOk X (b₀ :: suite) ts) (r : Serves X hds D W) :
    Serves X (.ExceptHandler (some (.Name x np)) none (b₀ :: suite) p :: hds) D (wOr X.K C (fun a cls d => ts a cls d D) W) := fun pins σ H a cls d B sI s c w => by
  obtain ⟨b, hb, yes, no⟩ := w
  refine wpAny_handleBy_cons (c.asks hf hc hb ?_) (by intro q; cases q)
  match b, yes, no with
  | false, _, no => exact r pins σ H a cls d B sI s c (no rfl)
  | true, yes, _ =>
    refine codeAny_handlers_suite (HandSPX.lands_againZ c.fly fun h' fl u => ?_)
    obtain ⟨oe, vs, _, e2, e3, S⟩ := (c.again fl u).inside hf
    exact wpAny_mono ((hsu a oe cls d _ e2 ⟨vs, e3⟩).run [] _ _ H D S (yes rfl a c.no)) (fun f t q => SP.out c.now.ok q) fun _ _ z => z.elim
/-- the ends of a suite whose clause has a name -/
def gone (i : Nat) (D : Ends) : Ends := { nx := fun τ G => D.nx (τ.set i none) G, rt := D.rt, bk := fun τ G => D.bk (τ.set i none) G, ct := fun τ G => D.ct (τ.set i none) G }
theorem serves_as {x n : Str} {C : Value} {i : Nat} {ts : Addr → Value → Option Addr → TS} {b₀ : Stmt} {suite : List Stmt} {hds : List ExceptHandler} {np p : Pos} {W : WX} (hf : X.env.frame = some X.env.locals) (hN : X.N.Nodup) (hi : X.N[i]? = some n) (hl : X.env.kindOf n = some .local)
    (hc : Names X x C) (hsu : SuiteOk X (b₀ :: suite) ts) (r : Serves X hds D W) :
    Serves X (.ExceptHandler (some (.Name x np)) (some n) (b₀ :: suite) p :: hds) D (wOr X.K C (fun a cls d σ H => ts a cls d (gone i D) (σ.set i (some (.ref a))) H) W) := fun pins σ H a cls d B sI s c w => by
  obtain ⟨b, hb, yes, no⟩ := w
  refine wpAny_handleBy_cons (c.asks hf hc hb ?_) (by intro q; cases q)
  match b, yes, no with
  | false, _, no => exact r pins σ H a cls d B sI s c (no rfl)
  | true, yes, _ =>
    refine codeAny_handlers_suite_as (HandSPX.lands_againZ c.fly fun h' fl u => ?_)
    obtain ⟨oe, vs, _, e2, e3, S⟩ := (c.again fl u).inside hf
    have ok := c.now.ok
    refine store_ok (X := X.suite a ((a, oe) :: (X.pn ++ pins))) (v := .ref a) S hN hi (.inl hl) rfl (fun s5 S5 => ?_) (.inr hl)
    refine wpAny_mono ((hsu a oe cls d _ e2 ⟨vs, e3⟩).run [] s5 _ H (gone i D) S5 (yes rfl a c.no)) (fun f t q => ?_) fun _ _ z => z.elim
    match f, q with
    | .next, ⟨τ, G, I, z⟩ => exact gone_ok (I.unsuite ok) hN hi hl fun t' J => ⟨_, _, J, z⟩
    | .brk, ⟨τ, G, I, z⟩ => exact gone_ok (I.unsuite ok) hN hi hl fun t' J => ⟨_, _, J, z⟩
    | .cont, ⟨τ, G, I, z⟩ => exact gone_ok (I.unsuite ok) hN hi hl fun t' J => ⟨_, _, J, z⟩
    | .ret u, ⟨v, τ, G, I, r, z⟩ => exact gone_ok (I.unsuite ok) hN hi hl fun t' J => ⟨v, _, _, J, r, z⟩
theorem ps_try_serves {body : List Stmt} {h₀ : ExceptHandler} {hds : List ExceptHandler} {pos : Pos} {tb : WX → TS} {W : Ends → WX} (hs : X.stack = X.env :: X.outer) (hf : X.env.frame = some X.env.locals)
    (hb : ∀ (W : WX) (pn : List (Addr × Obj)) (xe : Value → Shared → Prop), Takes (X.tr pn xe) W → PassesOwn (model X.prog X.w) X.A X.env xe → PSs (X.tr pn xe) body (tb W)) (hh : ∀ D, Serves X (h₀ :: hds) D (W D)) :
    PS X (.Try body (h₀ :: hds) [] [] pos) (fun D σ H => tb (W D) D σ H) := ⟨fun pins s σ H D I h => by
  have ok := I.ok
  refine wpAny_Try_except (wpAny_mono ((hb (W D) (X.pn ++ pins) _ (fun u t xx => ?_) PassesOwn.looking).run [] s σ H D (I.toTry _) h) (fun f t q => ?_) (fun e t he => he))
  · obtain ⟨a, B, sI, pins', σ', H', cls, d, rfl, J', nb, up, sky, na, os, ag, w⟩ := xx
    rw [hs] at sky
    refine Sky.land Zc.steady (by rw [ok.frames, hs]) hf sky fun h3 fl u3 => ?_
    exact hh D pins σ' H' a cls d B sI { t with heap := h3 } ⟨J'.ofTry ok, nb, up.trans u3, fl, na, os, ag⟩ w
  · match f, q with
    | .next, ⟨τ, G, J, z⟩ => exact wpAny_execs_nil ⟨τ, G, J.ofTry ok, z⟩
    | .brk, ⟨τ, G, J, z⟩ => exact ⟨τ, G, J.ofTry ok, z⟩
    | .cont, ⟨τ, G, J, z⟩ => exact ⟨τ, G, J.ofTry ok, z⟩
    | .ret u, ⟨v, τ, G, J, r, z⟩ => exact ⟨v, τ, G, J.ofTry ok, r, z⟩⟩
end
end Pv

namespace Gx
open PySem PySem.Spec PyProof.Rows L2 Pv
def topS (i : Nat) : Stmt := PySem.Challenge.pw_placesums_k05_whole_two_teams_in_both_ra.main.body.getD i (.Pass ⟨0, 0, 0, 0⟩)
def retComp (s : Stmt) : Scope := match (defBody s).getLast? with
  | some (.Return (some (.ListComp _ _ sc _)) _) => sc
  | _ => default
abbrev s_is_between : Stmt := topS 13
abbrev N_is_between : List Str := ["value", "low", "high"]
theorem sc_is_between : FnScope ["value", "low", "high"] ["value", "low", "high"] (defScope s_is_between) := ⟨rfl, rfl, rfl, by decide +kernel, rfl, by decide +kernel, by decide +kernel⟩
def b_is_between : MS := (mRet (mAndV (mOp1 (fIsi "int") (mVar 0)) (mAndV (mNotV (mOp1 (fIsi "bool") (mVar 0))) (mChain fLe fLe (mVar 1) (mVar 0) (mVar 2)))))
def m_is_between : MF := mFun0 3 3 b_is_between
abbrev s_is_text_of : Stmt := topS 14
abbrev N_is_text_of : List Str := ["value", "signs", "most", "sign"]
theorem sc_is_text_of : FnScope ["value", "signs", "most", "sign"] ["value", "signs", "most"] (defScope s_is_text_of) := ⟨rfl, rfl, rfl, by decide +kernel, rfl, by decide +kernel, by decide +kernel⟩
def b_is_text_of : MS := (mSeq (mIfS (mOr (mNot (mTest (mOp1 (fIsi "str") (mVar 0)))) (mTest (mOp2 fGt (mOp1 fLen (mVar 0)) (mVar 2)))) (mRet (mC (.bool false))) mPass)
    (mRet (mOp1 fAll (mLc (mIter (mVar 0)) (gNm 3) mYes (mOp2 fIn (mVar 3) (mVar 1)) [3]))))
def m_is_text_of : MF := mFun0 3 4 b_is_text_of
abbrev s_is_order : Stmt := topS 15
abbrev N_is_order : List Str := ["value"]
theorem sc_is_order : FnScope ["value"] ["value"] (defScope s_is_order) := ⟨rfl, rfl, rfl, by decide +kernel, rfl, by decide +kernel, by decide +kernel⟩
def b_is_order : MS := (mRet (mCall m_is_text_of (mACons false (mVar 0) (mACons false (mC (tx [97, 98, 99, 100, 101, 102])) (mACons false (mC (.int 40)) mANil)))))
def m_is_order : MF := mFun0 1 1 b_is_order
abbrev s_is_team : Stmt := topS 16
abbrev N_is_team : List Str := ["value"]
theorem sc_is_team : FnScope ["value"] ["value"] (defScope s_is_team) := ⟨rfl, rfl, rfl, by decide +kernel, rfl, by decide +kernel, by decide +kernel⟩
def b_is_team : MS := (mRet (mAndV (mCall m_is_text_of (mACons false (mVar 0) (mACons false (mC (tx [97, 98, 99, 100, 101, 102])) (mACons false (mC (.int 1)) mANil)))) (mOp2 fEq (mOp1 fLen (mVar 0)) (mC (.int 1)))))
def m_is_team : MF := mFun0 1 1 b_is_team
abbrev s_need_order : Stmt := topS 17
abbrev N_need_order : List Str := ["order"]
theorem sc_need_order : FnScope ["order"] ["order"] (defScope s_need_order) := ⟨rfl, rfl, rfl, by decide +kernel, rfl, by decide +kernel, by decide +kernel⟩
def b_need_order : MS := (mIfS (mNot (mTest (mCall m_is_order (mACons false (mVar 0) mANil)))) mNever mPass)
def m_need_order : MF := mFun0 1 1 b_need_order
def bx_need_order : MS := (mIfS (mNot (mTest (mCall m_is_order (mACons false (mVar 0) mANil)))) (mRaise "InvalidOrder") mPass)
def mx_need_order : MF := mFun 1 1 bx_need_order
abbrev s_need_team : Stmt := topS 18
abbrev N_need_team : List Str := ["team"]
theorem sc_need_team : FnScope ["team"] ["team"] (defScope s_need_team) := ⟨rfl, rfl, rfl, by decide +kernel, rfl, by decide +kernel, by decide +kernel⟩
def b_need_team : MS := (mIfS (mNot (mTest (mCall m_is_team (mACons false (mVar 0) mANil)))) mNever mPass)
def m_need_team : MF := mFun0 1 1 b_need_team
def bx_need_team : MS := (mIfS (mNot (mTest (mCall m_is_team (mACons false (mVar 0) mANil)))) (mRaise "InvalidTeam") mPass)
def mx_need_team : MF := mFun 1 1 bx_need_team
abbrev s_need_count : Stmt := topS 19
abbrev N_need_count : List Str := ["count"]
theorem sc_need_count : FnScope ["count"] ["count"] (defScope s_need_count) := ⟨rfl, rfl, rfl, by decide +kernel, rfl, by decide +kernel, by decide +kernel⟩
def b_need_count : MS := (mIfS (mNot (mTest (mCall m_is_between (mACons false (mVar 0) (mACons false (mC (.int 1)) (mACons false (mC (.int 7)) mANil)))))) mNever mPass)
def m_need_count : MF := mFun0 1 1 b_need_count
def bx_need_count : MS := (mIfS (mNot (mTest (mCall m_is_between (mACons false (mVar 0) (mACons false (mC (.int 1)) (mACons false (mC (.int 7)) mANil)))))) (mRaise "InvalidCount") mPass)
def mx_need_count : MF := mFun 1 1 bx_need_count
abbrev s_places_of : Stmt := topS 20
abbrev N_places_of : List Str := ["order", "team", "index", "other"]
theorem sc_places_of : FnScope ["order", "team", "index", "other"] ["order", "team"] (defScope s_places_of) := ⟨rfl, rfl, rfl, by decide +kernel, rfl, by decide +kernel, by decide +kernel⟩
def b_places_of : MS := (mRet (mLc (mEnum (mCons (mVar 0) mNil)) (gTp 2 (gsCons (gNm 2) (gsCons (gNm 3) gsNil))) (mTest (mOp2 fEq (mVar 3) (mVar 1))) (mOp2 fAdd (mVar 2) (mC (.int 1))) [2, 3]))
def m_places_of : MF := mFun0 2 4 b_places_of
abbrev s_score_of : Stmt := topS 21
abbrev N_score_of : List Str := ["order", "team", "count", "rows"]
theorem sc_score_of : FnScope ["order", "team", "count", "rows"] ["order", "team", "count"] (defScope s_score_of) := ⟨rfl, rfl, rfl, by decide +kernel, rfl, by decide +kernel, by decide +kernel⟩
def b_score_of : MS := (mSeq (mSet 3 (mCall m_places_of (mACons false (mVar 0) (mACons false (mVar 1) mANil))))
    (mRet (mIf (mTest (mOp2 fGe (mOp1 fLen (mVar 3)) (mVar 2))) (mOp1 fSum (mSlice (mVar 3) mNoPart (mPart (mVar 2)))) (mC .none))))
def m_score_of : MF := mFun0 3 4 b_score_of
abbrev s_kept : Stmt := topS 22
abbrev N_kept : List Str := ["order", "teams", "team"]
theorem sc_kept : FnScope ["order", "teams", "team"] ["order", "teams"] (defScope s_kept) := ⟨rfl, rfl, rfl, by decide +kernel, rfl, by decide +kernel, by decide +kernel⟩
def b_kept : MS := (mRet (mMth "str" fJoin (mC (tx [])) (mCons (mLc (mIter (mVar 0)) (gNm 2) (mTest (mOp2 fIn (mVar 2) (mVar 1))) (mVar 2) [2]) mNil)))
def m_kept : MF := mFun0 2 3 b_kept
abbrev s_score : Stmt := topS 23
abbrev N_score : List Str := ["order", "team", "count"]
theorem sc_score : FnScope ["order", "team", "count"] ["order", "team", "count"] (defScope s_score) := ⟨rfl, rfl, rfl, by decide +kernel, rfl, by decide +kernel, by decide +kernel⟩
def b_score : MS := (mSeq (mExp (mCall m_need_order (mACons false (mVar 0) mANil)))
    (mSeq (mExp (mCall m_need_team (mACons false (mVar 1) mANil)))
    (mSeq (mExp (mCall m_need_count (mACons false (mVar 2) mANil)))
    (mRet (mCall m_score_of (mACons false (mVar 0) (mACons false (mVar 1) (mACons false (mVar 2) mANil))))))))
def m_score : MF := mFun0 3 3 b_score
abbrev s_need_number : Stmt := topS 25
abbrev N_need_number : List Str := ["value", "low", "high"]
theorem sc_need_number : FnScope ["value", "low", "high"] ["value", "low", "high"] (defScope s_need_number) := ⟨rfl, rfl, rfl, by decide +kernel, rfl, by decide +kernel, by decide +kernel⟩
def b_need_number : MS := (mIfS (mNot (mTest (mCall m_is_between (mACons false (mVar 0) (mACons false (mVar 1) (mACons false (mVar 2) mANil)))))) mNever mPass)
def m_need_number : MF := mFun0 3 3 b_need_number
def bx_need_number : MS := (mIfS (mNot (mTest (mCall m_is_between (mACons false (mVar 0) (mACons false (mVar 1) (mACons false (mVar 2) mANil)))))) (mRaise "InvalidNumber") mPass)
def mx_need_number : MF := mFun 3 3 bx_need_number
abbrev s_need_two : Stmt := topS 27
abbrev N_need_two : List Str := ["order", "one", "two", "count"]
theorem sc_need_two : FnScope ["order", "one", "two", "count"] ["order", "one", "two", "count"] (defScope s_need_two) := ⟨rfl, rfl, rfl, by decide +kernel, rfl, by decide +kernel, by decide +kernel⟩
def b_need_two : MS := (mSeq (mExp (mCall m_need_order (mACons false (mVar 0) mANil)))
    (mSeq (mExp (mCall m_need_team (mACons false (mVar 1) mANil)))
    (mSeq (mExp (mCall m_need_team (mACons false (mVar 2) mANil)))
    (mSeq (mExp (mCall m_need_count (mACons false (mVar 3) mANil)))
    (mSeq (mIfS (mTest (mOp2 fEq (mVar 1) (mVar 2))) mNever mPass)
    (mIfS (mOr (mTest (mOp2 fIs (mCall m_score_of (mACons false (mVar 0) (mACons false (mVar 1) (mACons false (mVar 3) mANil)))) (mC .none))) (mTest (mOp2 fIs (mCall m_score_of (mACons false (mVar 0) (mACons false (mVar 2) (mACons false (mVar 3) mANil)))) (mC .none)))) mNever mPass))))))
def m_need_two : MF := mFun0 4 4 b_need_two
def bx_need_two : MS := (mSeq (mExp (mCall mx_need_order (mACons false (mVar 0) mANil)))
    (mSeq (mExp (mCall mx_need_team (mACons false (mVar 1) mANil)))
    (mSeq (mExp (mCall mx_need_team (mACons false (mVar 2) mANil)))
    (mSeq (mExp (mCall mx_need_count (mACons false (mVar 3) mANil)))
    (mSeq (mIfS (mTest (mOp2 fEq (mVar 1) (mVar 2))) (mRaise "InvalidTeam") mPass)
    (mIfS (mOr (mTest (mOp2 fIs (mCall m_score_of (mACons false (mVar 0) (mACons false (mVar 1) (mACons false (mVar 3) mANil)))) (mC .none))) (mTest (mOp2 fIs (mCall m_score_of (mACons false (mVar 0) (mACons false (mVar 2) (mACons false (mVar 3) mANil)))) (mC .none)))) (mRaise "NoScore") mPass))))))
def mx_need_two : MF := mFun 4 4 bx_need_two
abbrev s_dual_of : Stmt := topS 28
abbrev N_dual_of : List Str := ["order", "one", "two", "count", "rest"]
theorem sc_dual_of : FnScope ["order", "one", "two", "count", "rest"] ["order", "one", "two", "count"] (defScope s_dual_of) := ⟨rfl, rfl, rfl, by decide +kernel, rfl, by decide +kernel, by decide +kernel⟩
def b_dual_of : MS := (mSeq (mSet 4 (mCall m_kept (mACons false (mVar 0) (mACons false (mOp2 fAdd (mVar 1) (mVar 2)) mANil))))
    (mRet (mTup (mCons (mCall m_score_of (mACons false (mVar 4) (mACons false (mVar 1) (mACons false (mVar 3) mANil)))) (mCons (mCall m_score_of (mACons false (mVar 4) (mACons false (mVar 2) (mACons false (mVar 3) mANil)))) mNil)))))
def m_dual_of : MF := mFun0 4 5 b_dual_of
abbrev s_dual : Stmt := topS 29
abbrev N_dual : List Str := ["order", "one", "two", "count"]
theorem sc_dual : FnScope ["order", "one", "two", "count"] ["order", "one", "two", "count"] (defScope s_dual) := ⟨rfl, rfl, rfl, by decide +kernel, rfl, by decide +kernel, by decide +kernel⟩
def b_dual : MS := (mSeq (mExp (mCall m_need_two (mACons false (mVar 0) (mACons false (mVar 1) (mACons false (mVar 2) (mACons false (mVar 3) mANil))))))
    (mRet (mCall m_dual_of (mACons false (mVar 0) (mACons false (mVar 1) (mACons false (mVar 2) (mACons false (mVar 3) mANil)))))))
def m_dual : MF := mFun0 4 4 b_dual
def bx_dual : MS := (mSeq (mExp (mCall mx_need_two (mACons false (mVar 0) (mACons false (mVar 1) (mACons false (mVar 2) (mACons false (mVar 3) mANil))))))
    (mRet (mCall m_dual_of (mACons false (mVar 0) (mACons false (mVar 1) (mACons false (mVar 2) (mACons false (mVar 3) mANil)))))))
def mx_dual : MF := mFun 4 4 bx_dual
abbrev s_turned : Stmt := topS 30
abbrev N_turned : List Str := ["order", "one", "two", "count", "first", "second", "whole"]
theorem sc_turned : FnScope ["order", "one", "two", "count", "first", "second", "whole"] ["order", "one", "two", "count"] (defScope s_turned) := ⟨rfl, rfl, rfl, by decide +kernel, rfl, by decide +kernel, by decide +kernel⟩
def b_turned : MS := (mSeq (mAsgT (gTp 2 (gsCons (gNm 4) (gsCons (gNm 5) gsNil))) (mCall m_dual (mACons false (mVar 0) (mACons false (mVar 1) (mACons false (mVar 2) (mACons false (mVar 3) mANil))))))
    (mSeq (mSet 6 (mOp2 fSub (mCall m_score_of (mACons false (mVar 0) (mACons false (mVar 1) (mACons false (mVar 3) mANil)))) (mCall m_score_of (mACons false (mVar 0) (mACons false (mVar 2) (mACons false (mVar 3) mANil))))))
    (mRet (mOp2 fLt (mOp2 fMul (mVar 6) (mOp2 fSub (mVar 4) (mVar 5))) (mC (.int 0))))))
def m_turned : MF := mFun0 4 7 b_turned
def bx_turned : MS := (mSeq (mAsgT (gTp 2 (gsCons (gNm 4) (gsCons (gNm 5) gsNil))) (mCall mx_dual (mACons false (mVar 0) (mACons false (mVar 1) (mACons false (mVar 2) (mACons false (mVar 3) mANil))))))
    (mSeq (mSet 6 (mOp2 fSub (mCall m_score_of (mACons false (mVar 0) (mACons false (mVar 1) (mACons false (mVar 3) mANil)))) (mCall m_score_of (mACons false (mVar 0) (mACons false (mVar 2) (mACons false (mVar 3) mANil))))))
    (mRet (mOp2 fLt (mOp2 fMul (mVar 6) (mOp2 fSub (mVar 4) (mVar 5))) (mC (.int 0))))))
def mx_turned : MF := mFun 4 7 bx_turned
abbrev s_gains_of : Stmt := topS 31
abbrev N_gains_of : List Str := ["order", "one", "two", "count", "first", "second", "found", "gap", "behind", "place"]
theorem sc_gains_of : FnScope ["order", "one", "two", "count", "first", "second", "found", "gap", "behind", "place"] ["order", "one", "two", "count"] (defScope s_gains_of) := ⟨rfl, rfl, rfl, by decide +kernel, rfl, by decide +kernel, by decide +kernel⟩
def l_gains_of_0 : MS := (mSeq (mSet 8 (mOp1 fLen (mLc (mIter (mVar 4)) (gNm 9) (mTest (mOp2 fGt (mVar 9) (mVar 7))) (mVar 9) [9])))
    (mExp (mApp 6 (mOp2 fSub (mVar 8) (mOp1 fLen (mLc (mIter (mVar 5)) (gNm 9) (mTest (mOp2 fGt (mVar 9) (mVar 7))) (mVar 9) [9]))))))
def b_gains_of : MS := (mSeq (mPar2 4 5 (mSlice (mCall m_places_of (mACons false (mVar 0) (mACons false (mVar 1) mANil))) mNoPart (mPart (mVar 3))) (mSlice (mCall m_places_of (mACons false (mVar 0) (mACons false (mVar 2) mANil))) mNoPart (mPart (mVar 3))))
    (mSeq (mSet 6 (mLst mNil))
    (mSeq (mFor (mRange1 (mCons (mOp2 fAdd (mOp1 fLen (mVar 0)) (mC (.int 1))) mNil)) (gNm 7) l_gains_of_0)
    (mRet (mVar 6)))))
def m_gains_of : MF := mFun0 4 10 b_gains_of
abbrev s_fewest_to_turn : Stmt := topS 32
abbrev N_fewest_to_turn : List Str := ["order", "one", "two", "count", "lead", "best"]
theorem sc_fewest_to_turn : FnScope ["order", "one", "two", "count", "lead", "best"] ["order", "one", "two", "count"] (defScope s_fewest_to_turn) := ⟨rfl, rfl, rfl, by decide +kernel, rfl, by decide +kernel, by decide +kernel⟩
def b_fewest_to_turn : MS := (mSeq (mExp (mCall m_need_two (mACons false (mVar 0) (mACons false (mVar 1) (mACons false (mVar 2) (mACons false (mVar 3) mANil))))))
    (mSeq (mSet 4 (mOp2 fSub (mCall m_score_of (mACons false (mVar 0) (mACons false (mVar 2) (mACons false (mVar 3) mANil)))) (mCall m_score_of (mACons false (mVar 0) (mACons false (mVar 1) (mACons false (mVar 3) mANil))))))
    (mSeq (mIfS (mTest (mOp2 fLt (mVar 4) (mC (.int 0)))) (mRet (mC (.int 0))) mPass)
    (mSeq (mSet 5 (mOp1 fMax (mCall m_gains_of (mACons false (mVar 0) (mACons false (mVar 1) (mACons false (mVar 2) (mACons false (mVar 3) mANil)))))))
    (mRet (mIf (mTest (mOp2 fGt (mVar 5) (mC (.int 0)))) (mOp2 fAdd (mOp2 fDiv (mVar 4) (mVar 5)) (mC (.int 1))) (mC .none)))))))
def m_fewest_to_turn : MF := mFun0 4 6 b_fewest_to_turn
def bx_fewest_to_turn : MS := (mSeq (mExp (mCall mx_need_two (mACons false (mVar 0) (mACons false (mVar 1) (mACons false (mVar 2) (mACons false (mVar 3) mANil))))))
    (mSeq (mSet 4 (mOp2 fSub (mCall m_score_of (mACons false (mVar 0) (mACons false (mVar 2) (mACons false (mVar 3) mANil)))) (mCall m_score_of (mACons false (mVar 0) (mACons false (mVar 1) (mACons false (mVar 3) mANil))))))
    (mSeq (mIfS (mTest (mOp2 fLt (mVar 4) (mC (.int 0)))) (mRet (mC (.int 0))) mPass)
    (mSeq (mSet 5 (mOp1 fMax (mCall m_gains_of (mACons false (mVar 0) (mACons false (mVar 1) (mACons false (mVar 2) (mACons false (mVar 3) mANil)))))))
    (mRet (mIf (mTest (mOp2 fGt (mVar 5) (mC (.int 0)))) (mOp2 fAdd (mOp2 fDiv (mVar 4) (mVar 5)) (mC (.int 1))) (mC .none)))))))
def mx_fewest_to_turn : MF := mFun 4 6 bx_fewest_to_turn
abbrev s_put_in : Stmt := topS 33
abbrev N_put_in : List Str := ["order", "gap", "team", "number"]
theorem sc_put_in : FnScope ["order", "gap", "team", "number"] ["order", "gap", "team", "number"] (defScope s_put_in) := ⟨rfl, rfl, rfl, by decide +kernel, rfl, by decide +kernel, by decide +kernel⟩
def b_put_in : MS := (mSeq (mExp (mCall m_need_order (mACons false (mVar 0) mANil)))
    (mSeq (mIfS (mNot (mTest (mCall m_is_between (mACons false (mVar 1) (mACons false (mC (.int 0)) (mACons false (mOp1 fLen (mVar 0)) mANil)))))) mNever mPass)
    (mSeq (mExp (mCall m_need_team (mACons false (mVar 2) mANil)))
    (mSeq (mExp (mCall m_need_number (mACons false (mVar 3) (mACons false (mC (.int 0)) (mACons false (mC (.int 40)) mANil)))))
    (mSeq (mIfS (mTest (mOp2 fGt (mOp2 fAdd (mOp1 fLen (mVar 0)) (mVar 3)) (mC (.int 40)))) mNever mPass)
    (mRet (mOp2 fAdd (mOp2 fAdd (mSlice (mVar 0) mNoPart (mPart (mVar 1))) (mOp2 fMul (mVar 2) (mVar 3))) (mSlice (mVar 0) (mPart (mVar 1)) mNoPart))))))))
def m_put_in : MF := mFun0 4 4 b_put_in
def bx_put_in : MS := (mSeq (mExp (mCall mx_need_order (mACons false (mVar 0) mANil)))
    (mSeq (mIfS (mNot (mTest (mCall m_is_between (mACons false (mVar 1) (mACons false (mC (.int 0)) (mACons false (mOp1 fLen (mVar 0)) mANil)))))) (mRaise "InvalidGap") mPass)
    (mSeq (mExp (mCall mx_need_team (mACons false (mVar 2) mANil)))
    (mSeq (mExp (mCall mx_need_number (mACons false (mVar 3) (mACons false (mC (.int 0)) (mACons false (mC (.int 40)) mANil)))))
    (mSeq (mIfS (mTest (mOp2 fGt (mOp2 fAdd (mOp1 fLen (mVar 0)) (mVar 3)) (mC (.int 40)))) (mRaiseI "TooMany" (mC (.int 40))) mPass)
    (mRet (mOp2 fAdd (mOp2 fAdd (mSlice (mVar 0) mNoPart (mPart (mVar 1))) (mOp2 fMul (mVar 2) (mVar 3))) (mSlice (mVar 0) (mPart (mVar 1)) mNoPart))))))))
def mx_put_in : MF := mFun 4 4 bx_put_in
abbrev s__law_source : Stmt := topS 35
abbrev N__law_source : List Str := ["script", "index", "cell"]
theorem sc__law_source : FnScope ["script", "index", "cell"] ["script", "index"] (defScope s__law_source) := ⟨rfl, rfl, rfl, by decide +kernel, rfl, by decide +kernel, by decide +kernel⟩
def b__law_source : MS := (mSeq (mSet 2 (mC (.int 0)))
    (mSeq (mIfS (mTest (mOp2 fLt (mVar 1) (mLenScr 0))) (mSet 2 (mOp1 fAbs (mIxScr 0 (mVar 1)))) mPass)
    (mSeq (mIfS (mTest (mOp2 fLt (mVar 2) (mOp2 fPow (mC (.int 10)) (mC (.int 18))))) (mRet (mLst (mCons (mC (.int 0)) (mCons (mOp2 fAdd (mC (.int 1)) (mOp2 fMod (mOp2 fAdd (mOp2 fMul (mVar 2) (mC (.int 7919))) (mOp2 fMul (mC (.int 104729)) (mVar 1))) (mC (.int 2147483646)))) mNil)))) mPass)
    (mRet (mLst (mCons (mVar 2) (mCons (mOp2 fAdd (mC (.int 1)) (mOp2 fMod (mOp2 fAdd (mVar 2) (mVar 1)) (mC (.int 2147483646)))) mNil)))))))
def m__law_source : MF := mFun0 2 3 b__law_source
abbrev s__law_draw : Stmt := topS 36
abbrev N__law_draw : List Str := ["source", "size", "drawn"]
theorem sc__law_draw : FnScope ["source", "size", "drawn"] ["source", "size"] (defScope s__law_draw) := ⟨rfl, rfl, rfl, by decide +kernel, rfl, by decide +kernel, by decide +kernel⟩
def b__law_draw : MS := (mSeq (mIfS (mTest (mOp2 fGt (mOp2 fIx (mVar 0) (mC (.int 0))) (mC (.int 0)))) (mSeq (mSet 2 (mOp2 fMod (mOp2 fIx (mVar 0) (mC (.int 0))) (mVar 1)))
    (mSeq (mSetIx 0 (mC (.int 0)) (mOp2 fDiv (mOp2 fIx (mVar 0) (mC (.int 0))) (mVar 1)))
    (mRet (mVar 2)))) mPass)
    (mSeq (mSetIx 0 (mC (.int 1)) (mOp2 fMod (mOp2 fMul (mOp2 fIx (mVar 0) (mC (.int 1))) (mC (.int 48271))) (mC (.int 2147483647))))
    (mRet (mOp2 fMod (mOp2 fDiv (mOp2 fMod (mOp2 fMul (mOp2 fIx (mVar 0) (mC (.int 1))) (mOp2 fIx (mVar 0) (mC (.int 1)))) (mC (.int 2147483629))) (mC (.int 64))) (mVar 1)))))
def m__law_draw : MF := mFun0 2 3 b__law_draw
abbrev s__law_choice : Stmt := topS 37
abbrev N__law_choice : List Str := ["source", "items"]
theorem sc__law_choice : FnScope ["source", "items"] ["source", "items"] (defScope s__law_choice) := ⟨rfl, rfl, rfl, by decide +kernel, rfl, by decide +kernel, by decide +kernel⟩
def b__law_choice : MS := (mRet (mOp2 fIx (mVar 1) (mCall m__law_draw (mACons true (mVar 0) (mACons false (mOp1 fLen (mVar 1)) mANil)))))
def m__law_choice : MF := mFun0 2 2 b__law_choice
abbrev s__law_order : Stmt := topS 38
abbrev N__law_order : List Str := ["source", "teams", "most", "found", "team", "turn"]
theorem sc__law_order : FnScope ["source", "teams", "most", "found", "team", "turn"] ["source", "teams", "most"] (defScope s__law_order) := ⟨rfl, rfl, rfl, by decide +kernel, rfl, by decide +kernel, by decide +kernel⟩
def l__law_order_0 : MS := (mSeq (mSet 4 (mCall m__law_choice (mACons true (mVar 0) (mACons false (mOp2 fAdd (mOp1 fList (mVar 1)) (mLst (mCons (mVar 4) mNil))) mANil))))
    (mSet 3 (mOp2 fAdd (mVar 3) (mVar 4))))
def b__law_order : MS := (mSeq (mPar2 3 4 (mC (tx [])) (mOp2 fIx (mVar 1) (mC (.int 0))))
    (mSeq (mFor (mRange1 (mCons (mCall m__law_draw (mACons true (mVar 0) (mACons false (mOp2 fAdd (mVar 2) (mC (.int 1))) mANil))) mNil)) (gNm 5) l__law_order_0)
    (mRet (mVar 3))))
def m__law_order : MF := mFun0 3 6 b__law_order
abbrev s__law_places : Stmt := topS 39
abbrev N__law_places : List Str := ["order", "team", "found", "place", "other"]
theorem sc__law_places : FnScope ["order", "team", "found", "place", "other"] ["order", "team"] (defScope s__law_places) := ⟨rfl, rfl, rfl, by decide +kernel, rfl, by decide +kernel, by decide +kernel⟩
def l__law_places_0 : MS := (mSeq (mSet 3 (mOp2 fAdd (mVar 3) (mC (.int 1))))
    (mIfS (mTest (mOp2 fEq (mVar 4) (mVar 1))) (mExp (mApp 2 (mVar 3))) mPass))
def b__law_places : MS := (mSeq (mPar2 2 3 (mLst mNil) (mC (.int 0)))
    (mSeq (mFor (mIter (mVar 0)) (gNm 4) l__law_places_0)
    (mRet (mVar 2))))
def m__law_places : MF := mFun0 2 5 b__law_places
abbrev s__law_score : Stmt := topS 40
abbrev N__law_score : List Str := ["order", "team", "count", "rows"]
theorem sc__law_score : FnScope ["order", "team", "count", "rows"] ["order", "team", "count"] (defScope s__law_score) := ⟨rfl, rfl, rfl, by decide +kernel, rfl, by decide +kernel, by decide +kernel⟩
def b__law_score : MS := (mSeq (mSet 3 (mCall m__law_places (mACons false (mVar 0) (mACons false (mVar 1) mANil))))
    (mRet (mIf (mTest (mOp2 fGe (mOp1 fLen (mVar 3)) (mVar 2))) (mOp1 fSum (mSlice (mVar 3) mNoPart (mPart (mVar 2)))) (mC .none))))
def m__law_score : MF := mFun0 3 4 b__law_score
abbrev s__law_rest : Stmt := topS 41
abbrev N__law_rest : List Str := ["order", "teams", "found", "team"]
theorem sc__law_rest : FnScope ["order", "teams", "found", "team"] ["order", "teams"] (defScope s__law_rest) := ⟨rfl, rfl, rfl, by decide +kernel, rfl, by decide +kernel, by decide +kernel⟩
def l__law_rest_0 : MS := (mIfS (mTest (mOp2 fIn (mVar 3) (mOp1 fList (mVar 1)))) (mSet 2 (mOp2 fAdd (mVar 2) (mVar 3))) mPass)
def b__law_rest : MS := (mSeq (mSet 2 (mC (tx [])))
    (mSeq (mFor (mIter (mVar 0)) (gNm 3) l__law_rest_0)
    (mRet (mVar 2))))
def m__law_rest : MF := mFun0 2 4 b__law_rest
abbrev s__law_name : Stmt := topS 42
theorem sc__law_name : FnScope ["call", "name", "e"] ["call"] (defScope s__law_name) := ⟨rfl, rfl, rfl, by decide +kernel, rfl, by decide +kernel, by decide +kernel⟩
def g__law_name : Option Ex → Option PyData
  | none => some (tx [])
  | some (x, l) => if x = "InvalidGap" then some (tx [103, 97, 112]) else if x = "NoScore" then some (tx [115, 99, 111, 114, 101]) else if x = "TooMany" ∧ l = some 40 then some (tx [109, 97, 110, 121, 52, 48]) else none
theorem gs__law_name : ∀ x r, g__law_name x = some r → scalar r = true
  | none, r, h => by cases h; rfl
  | some (x, l), r, h => by
    have h' : (if x = "InvalidGap" then some (tx [103, 97, 112]) else if x = "NoScore" then some (tx [115, 99, 111, 114, 101]) else if x = "TooMany" ∧ l = some 40 then some (tx [109, 97, 110, 121, 52, 48]) else none) = some r := h
    repeat (split at h'; · (cases h'; rfl))
    cases h'
abbrev s__law_pair_right : Stmt := topS 43
abbrev N__law_pair_right : List Str := ["order", "one", "two", "count", "rest", "first", "second", "whole", "alone", "told", "team", "fewer", "other"]
theorem sc__law_pair_right : FnScope ["order", "one", "two", "count", "rest", "first", "second", "whole", "alone", "told", "team", "fewer", "other"] ["order", "one", "two", "count"] (defScope s__law_pair_right) := ⟨rfl, rfl, rfl, by decide +kernel, rfl, by decide +kernel, by decide +kernel⟩
def l__law_pair_right_0 : MS := (mIfS (mTest (mOp2 fNotIn (mVar 10) (mTup (mCons (mVar 1) (mCons (mVar 2) mNil))))) (mSeq (mSet 11 (mMth "str" fJoin (mC (tx [])) (mCons (mLc (mIter (mVar 0)) (gNm 12) (mTest (mOp2 fNe (mVar 12) (mVar 10))) (mVar 12) [12]) mNil)))
    (mIfS (mTest (mOp2 fGt (mCall m_score (mACons false (mVar 11) (mACons false (mVar 1) (mACons false (mVar 3) mANil)))) (mCall m_score (mACons false (mVar 0) (mACons false (mVar 1) (mACons false (mVar 3) mANil)))))) (mRet (mC (.bool false))) mPass)) mPass)
def b__law_pair_right : MS := (mSeq (mSet 4 (mCall m__law_rest (mACons false (mVar 0) (mACons false (mOp2 fAdd (mVar 1) (mVar 2)) mANil))))
    (mSeq (mPar2 5 6 (mCall m__law_score (mACons false (mVar 4) (mACons false (mVar 1) (mACons false (mVar 3) mANil)))) (mCall m__law_score (mACons false (mVar 4) (mACons false (mVar 2) (mACons false (mVar 3) mANil)))))
    (mSeq (mPar2 7 8 (mOp2 fSub (mCall m__law_score (mACons false (mVar 0) (mACons false (mVar 1) (mACons false (mVar 3) mANil)))) (mCall m__law_score (mACons false (mVar 0) (mACons false (mVar 2) (mACons false (mVar 3) mANil))))) (mOp2 fSub (mVar 5) (mVar 6)))
    (mSeq (mIfS (mOr (mTest (mOp2 fNe (mCall m_dual (mACons false (mVar 0) (mACons false (mVar 1) (mACons false (mVar 2) (mACons false (mVar 3) mANil))))) (mTup (mCons (mVar 5) (mCons (mVar 6) mNil))))) (mTest (mOp2 fNe (mCall m_dual (mACons false (mVar 0) (mACons false (mVar 2) (mACons false (mVar 1) (mACons false (mVar 3) mANil))))) (mTup (mCons (mVar 6) (mCons (mVar 5) mNil)))))) (mRet (mC (.bool false))) mPass)
    (mSeq (mSet 9 (mCall m_turned (mACons false (mVar 0) (mACons false (mVar 1) (mACons false (mVar 2) (mACons false (mVar 3) mANil))))))
    (mSeq (mIfS (mOr (mNot (mTest (mOp1 (fIsi "bool") (mVar 9)))) (mTest (mOp2 fNe (mVar 9) (mOrV (mAndV (mOp2 fLt (mVar 7) (mC (.int 0))) (mOp2 fGt (mVar 8) (mC (.int 0)))) (mAndV (mOp2 fGt (mVar 7) (mC (.int 0))) (mOp2 fLt (mVar 8) (mC (.int 0)))))))) (mRet (mC (.bool false))) mPass)
    (mSeq (mFor (mIter (mC (tx [97, 98, 99, 100, 101]))) (gNm 10) l__law_pair_right_0)
    (mRet (mOrV (mOp2 fGt (mVar 3) (mC (.int 1))) (mNotV (mVar 9)))))))))))
def m__law_pair_right : MF := mFun0 4 13 b__law_pair_right
abbrev s_law : Stmt := topS 44
abbrev N_law : List Str := ["script", "k", "source", "order", "count", "one", "two", "gap", "number", "odd"]
theorem sc_law : FnScope ["script", "k", "source", "order", "count", "one", "two", "gap", "number", "odd"] ["script"] (defScope s_law) := ⟨rfl, rfl, rfl, by decide +kernel, rfl, by decide +kernel, by decide +kernel⟩
def l_law_0 : MS := (mIfS (mTest (mOp2 fNe (mVar 5) (mVar 6))) (mIfS (mOr (mTest (mOp2 fIs (mCall m__law_score (mACons false (mVar 3) (mACons false (mVar 5) (mACons false (mVar 4) mANil)))) (mC .none))) (mTest (mOp2 fIs (mCall m__law_score (mACons false (mVar 3) (mACons false (mVar 6) (mACons false (mVar 4) mANil)))) (mC .none)))) (mSeq (mIfS (mTest (mOp2 fNe (mTold g__law_name (mCall mx_turned (mACons false (mVar 3) (mACons false (mVar 5) (mACons false (mVar 6) (mACons false (mVar 4) mANil)))))) (mC (tx [115, 99, 111, 114, 101])))) (mRet (mC (.bool false))) mPass)
    (mIfS (mTest (mOp2 fNe (mTold g__law_name (mCall mx_fewest_to_turn (mACons false (mVar 3) (mACons false (mVar 5) (mACons false (mVar 6) (mACons false (mVar 4) mANil)))))) (mC (tx [115, 99, 111, 114, 101])))) (mRet (mC (.bool false))) mPass)) (mIfS (mNot (mTest (mCall m__law_pair_right (mACons false (mVar 3) (mACons false (mVar 5) (mACons false (mVar 6) (mACons false (mVar 4) mANil))))))) (mRet (mC (.bool false))) mPass)) mPass)
def l_law_1 : MS := (mFor (mIter (mC (tx [97, 98, 99, 100, 101]))) (gNm 6) l_law_0)
def l_law_2 : MS := (mIfS (mTest (mOp2 fNe (mTold g__law_name (mCall mx_put_in (mACons false (mVar 3) (mACons false (mVar 9) (mACons false (mC .none) (mACons false (mC .none) mANil)))))) (mC (tx [103, 97, 112])))) (mRet (mC (.bool false))) mPass)
def l_law_3 : MS := (mSeq (mSet 2 (mCall m__law_source (mACons true (mVar 0) (mACons false (mVar 1) mANil))))
    (mSeq (mAsgT (gTp 2 (gsCons (gNm 3) (gsCons (gNm 4) gsNil))) (mTup (mCons (mCall m__law_order (mACons true (mVar 2) (mACons false (mSlice (mC (tx [97, 98, 99, 100, 101])) mNoPart (mPart (mOp2 fAdd (mC (.int 2)) (mCall m__law_draw (mACons true (mVar 2) (mACons false (mC (.int 4)) mANil)))))) (mACons false (mC (.int 30)) mANil)))) (mCons (mOp2 fAdd (mC (.int 1)) (mCall m__law_draw (mACons true (mVar 2) (mACons false (mC (.int 5)) mANil)))) mNil))))
    (mSeq (mFor (mIter (mC (tx [97, 98, 99, 100, 101]))) (gNm 5) l_law_1)
    (mSeq (mPar2 7 8 (mCall m__law_draw (mACons true (mVar 2) (mACons false (mOp2 fAdd (mOp1 fLen (mVar 3)) (mC (.int 1))) mANil))) (mCall m__law_draw (mACons true (mVar 2) (mACons false (mOp2 fSub (mC (.int 41)) (mOp1 fLen (mVar 3))) mANil))))
    (mSeq (mIfS (mTest (mOp2 fNe (mCall m_put_in (mACons false (mVar 3) (mACons false (mVar 7) (mACons false (mC (tx [99])) (mACons false (mVar 8) mANil))))) (mOp2 fAdd (mOp2 fAdd (mSlice (mVar 3) mNoPart (mPart (mVar 7))) (mOp2 fMul (mC (tx [99])) (mVar 8))) (mSlice (mVar 3) (mPart (mVar 7)) mNoPart)))) (mRet (mC (.bool false))) mPass)
    (mSeq (mFor (mIter (mLst (mCons (mC .none) (mCons (mOp1 fNeg (mC (.int 1))) (mCons (mOp2 fAdd (mOp1 fLen (mVar 3)) (mC (.int 1))) (mCons (mC (.bool true)) (mCons (mC (tx [48])) mNil))))))) (gNm 9) l_law_2)
    (mIfS (mTest (mOp2 fNe (mTold g__law_name (mCall mx_put_in (mACons false (mOp2 fAdd (mVar 3) (mC (tx [97]))) (mACons false (mC (.int 0)) (mACons false (mC (tx [97])) (mACons false (mC (.int 40)) mANil)))))) (mC (tx [109, 97, 110, 121, 52, 48])))) (mRet (mC (.bool false))) mPass)))))))
def b_law : MS := (mSeq (mFor (mRange1 (mCons (mOp2 fAdd (mC (.int 1)) (mOpN fMin2 (mCons (mLenScr 0) (mCons (mC (.int 12)) mNil)))) mNil)) (gNm 1) l_law_3)
    (mSeq (mIfS (mOr (mTest (mOp2 fIsNot (mCall m_turned (mACons false (mC (tx [97, 97, 98, 98, 98, 99, 99, 99, 99, 97])) (mACons false (mC (tx [97])) (mACons false (mC (tx [98])) (mACons false (mC (.int 3)) mANil))))) (mC (.bool true)))) (mTest (mOp2 fNe (mCall m_dual (mACons false (mC (tx [97, 98, 98, 97, 97, 99, 98, 99, 99])) (mACons false (mC (tx [98])) (mACons false (mC (tx [99])) (mACons false (mC (.int 3)) mANil))))) (mTup (mCons (mC (.int 7)) (mCons (mC (.int 14)) mNil)))))) (mRet (mC (.bool false))) mPass)
    (mRet (mAndV (mOp2 fEq (mCall m_put_in (mACons false (mC (tx [97, 98, 97, 98])) (mACons false (mC (.int 2)) (mACons false (mC (tx [99])) (mACons false (mC (.int 2)) mANil))))) (mC (tx [97, 98, 99, 99, 97, 98]))) (mOp2 fIs (mCall m_turned (mACons false (mC (tx [97, 98, 98, 97, 97, 99, 98, 99, 99])) (mACons false (mC (tx [97])) (mACons false (mC (tx [98])) (mACons false (mC (.int 3)) mANil))))) (mC (.bool false)))))))
def m_law : MF := mFun0 1 10 b_law
def clsS (i j : Nat) : Stmt := match topS i with
  | .ClassDef _ _ _ b .. => b.getD j (.Pass ⟨0, 0, 0, 0⟩)
  | s => s
abbrev s_ini_TooMany : Stmt := clsS 8 0
theorem sc_ini_TooMany : FnScope ["self", "limit"] ["self", "limit"] (defScope s_ini_TooMany) := ⟨rfl, rfl, rfl, by decide +kernel, rfl, by decide +kernel, by decide +kernel⟩
structure Txt (K : PySem.W.Frag) (mg : Str → Option Value) where
  f_is_between : Addr
  d_is_between : FuncData
  F_is_between : Fun K "is_between" "is_between" s_is_between f_is_between d_is_between
  b_is_between : Binds K d_is_between ["value", "low", "high"] []
  g_is_between : mg "is_between" = some (.ref f_is_between)
  f_is_text_of : Addr
  d_is_text_of : FuncData
  F_is_text_of : Fun K "is_text_of" "is_text_of" s_is_text_of f_is_text_of d_is_text_of
  b_is_text_of : Binds K d_is_text_of ["value", "signs", "most"] []
  g_is_text_of : mg "is_text_of" = some (.ref f_is_text_of)
  f_is_order : Addr
  d_is_order : FuncData
  F_is_order : Fun K "is_order" "is_order" s_is_order f_is_order d_is_order
  b_is_order : Binds K d_is_order ["value"] []
  g_is_order : mg "is_order" = some (.ref f_is_order)
  f_is_team : Addr
  d_is_team : FuncData
  F_is_team : Fun K "is_team" "is_team" s_is_team f_is_team d_is_team
  b_is_team : Binds K d_is_team ["value"] []
  g_is_team : mg "is_team" = some (.ref f_is_team)
  f_need_order : Addr
  d_need_order : FuncData
  F_need_order : Fun K "need_order" "need_order" s_need_order f_need_order d_need_order
  b_need_order : Binds K d_need_order ["order"] []
  g_need_order : mg "need_order" = some (.ref f_need_order)
  f_need_team : Addr
  d_need_team : FuncData
  F_need_team : Fun K "need_team" "need_team" s_need_team f_need_team d_need_team
  b_need_team : Binds K d_need_team ["team"] []
  g_need_team : mg "need_team" = some (.ref f_need_team)
  f_need_count : Addr
  d_need_count : FuncData
  F_need_count : Fun K "need_count" "need_count" s_need_count f_need_count d_need_count
  b_need_count : Binds K d_need_count ["count"] []
  g_need_count : mg "need_count" = some (.ref f_need_count)
  f_places_of : Addr
  d_places_of : FuncData
  F_places_of : Fun K "places_of" "places_of" s_places_of f_places_of d_places_of
  b_places_of : Binds K d_places_of ["order", "team"] []
  g_places_of : mg "places_of" = some (.ref f_places_of)
  f_score_of : Addr
  d_score_of : FuncData
  F_score_of : Fun K "score_of" "score_of" s_score_of f_score_of d_score_of
  b_score_of : Binds K d_score_of ["order", "team", "count"] []
  g_score_of : mg "score_of" = some (.ref f_score_of)
  f_kept : Addr
  d_kept : FuncData
  F_kept : Fun K "kept" "kept" s_kept f_kept d_kept
  b_kept : Binds K d_kept ["order", "teams"] []
  g_kept : mg "kept" = some (.ref f_kept)
  f_score : Addr
  d_score : FuncData
  F_score : Fun K "score" "score" s_score f_score d_score
  b_score : Binds K d_score ["order", "team", "count"] []
  g_score : mg "score" = some (.ref f_score)
  f_need_number : Addr
  d_need_number : FuncData
  F_need_number : Fun K "need_number" "need_number" s_need_number f_need_number d_need_number
  b_need_number : Binds K d_need_number ["value", "low", "high"] []
  g_need_number : mg "need_number" = some (.ref f_need_number)
  f_need_two : Addr
  d_need_two : FuncData
  F_need_two : Fun K "need_two" "need_two" s_need_two f_need_two d_need_two
  b_need_two : Binds K d_need_two ["order", "one", "two", "count"] []
  g_need_two : mg "need_two" = some (.ref f_need_two)
  f_dual_of : Addr
  d_dual_of : FuncData
  F_dual_of : Fun K "dual_of" "dual_of" s_dual_of f_dual_of d_dual_of
  b_dual_of : Binds K d_dual_of ["order", "one", "two", "count"] []
  g_dual_of : mg "dual_of" = some (.ref f_dual_of)
  f_dual : Addr
  d_dual : FuncData
  F_dual : Fun K "dual" "dual" s_dual f_dual d_dual
  b_dual : Binds K d_dual ["order", "one", "two", "count"] []
  g_dual : mg "dual" = some (.ref f_dual)
  f_turned : Addr
  d_turned : FuncData
  F_turned : Fun K "turned" "turned" s_turned f_turned d_turned
  b_turned : Binds K d_turned ["order", "one", "two", "count"] []
  g_turned : mg "turned" = some (.ref f_turned)
  f_gains_of : Addr
  d_gains_of : FuncData
  F_gains_of : Fun K "gains_of" "gains_of" s_gains_of f_gains_of d_gains_of
  b_gains_of : Binds K d_gains_of ["order", "one", "two", "count"] []
  g_gains_of : mg "gains_of" = some (.ref f_gains_of)
  f_fewest_to_turn : Addr
  d_fewest_to_turn : FuncData
  F_fewest_to_turn : Fun K "fewest_to_turn" "fewest_to_turn" s_fewest_to_turn f_fewest_to_turn d_fewest_to_turn
  b_fewest_to_turn : Binds K d_fewest_to_turn ["order", "one", "two", "count"] []
  g_fewest_to_turn : mg "fewest_to_turn" = some (.ref f_fewest_to_turn)
  f_put_in : Addr
  d_put_in : FuncData
  F_put_in : Fun K "put_in" "put_in" s_put_in f_put_in d_put_in
  b_put_in : Binds K d_put_in ["order", "gap", "team", "number"] []
  g_put_in : mg "put_in" = some (.ref f_put_in)
  f__law_source : Addr
  d__law_source : FuncData
  F__law_source : Fun K "_law_source" "_law_source" s__law_source f__law_source d__law_source
  b__law_source : Binds K d__law_source ["script", "index"] []
  g__law_source : mg "_law_source" = some (.ref f__law_source)
  f__law_draw : Addr
  d__law_draw : FuncData
  F__law_draw : Fun K "_law_draw" "_law_draw" s__law_draw f__law_draw d__law_draw
  b__law_draw : Binds K d__law_draw ["source", "size"] []
  g__law_draw : mg "_law_draw" = some (.ref f__law_draw)
  f__law_choice : Addr
  d__law_choice : FuncData
  F__law_choice : Fun K "_law_choice" "_law_choice" s__law_choice f__law_choice d__law_choice
  b__law_choice : Binds K d__law_choice ["source", "items"] []
  g__law_choice : mg "_law_choice" = some (.ref f__law_choice)
  f__law_order : Addr
  d__law_order : FuncData
  F__law_order : Fun K "_law_order" "_law_order" s__law_order f__law_order d__law_order
  b__law_order : Binds K d__law_order ["source", "teams", "most"] []
  g__law_order : mg "_law_order" = some (.ref f__law_order)
  f__law_places : Addr
  d__law_places : FuncData
  F__law_places : Fun K "_law_places" "_law_places" s__law_places f__law_places d__law_places
  b__law_places : Binds K d__law_places ["order", "team"] []
  g__law_places : mg "_law_places" = some (.ref f__law_places)
  f__law_score : Addr
  d__law_score : FuncData
  F__law_score : Fun K "_law_score" "_law_score" s__law_score f__law_score d__law_score
  b__law_score : Binds K d__law_score ["order", "team", "count"] []
  g__law_score : mg "_law_score" = some (.ref f__law_score)
  f__law_rest : Addr
  d__law_rest : FuncData
  F__law_rest : Fun K "_law_rest" "_law_rest" s__law_rest f__law_rest d__law_rest
  b__law_rest : Binds K d__law_rest ["order", "teams"] []
  g__law_rest : mg "_law_rest" = some (.ref f__law_rest)
  f__law_name : Addr
  d__law_name : FuncData
  F__law_name : Fun K "_law_name" "_law_name" s__law_name f__law_name d__law_name
  b__law_name : Binds K d__law_name ["call"] []
  g__law_name : mg "_law_name" = some (.ref f__law_name)
  f__law_pair_right : Addr
  d__law_pair_right : FuncData
  F__law_pair_right : Fun K "_law_pair_right" "_law_pair_right" s__law_pair_right f__law_pair_right d__law_pair_right
  b__law_pair_right : Binds K d__law_pair_right ["order", "one", "two", "count"] []
  g__law_pair_right : mg "_law_pair_right" = some (.ref f__law_pair_right)
  f_law : Addr
  d_law : FuncData
  F_law : Fun K "law" "law" s_law f_law d_law
  b_law : Binds K d_law ["script"] []
  g_law : mg "law" = some (.ref f_law)
  tc_law : Addr
  tP_law : Addr
  tn_law : PySem.W.tabIn K "law" = some (tc_law, tP_law)
  tu_law : tabUniq K "law" tP_law = true
  dc_law : d_law.code = .ref tc_law
  e_InvalidOrder : Addr
  eg_InvalidOrder : mg "InvalidOrder" = some (.ref e_InvalidOrder)
  ex_InvalidOrder : PySem.W.excIn K e_InvalidOrder [.type "ValueError", .type "Exception", .type "BaseException", .type "object"] "ValueError.__new__" = true
  ek_InvalidOrder : PySem.W.keepIn K (.ref e_InvalidOrder) = true
  eb_InvalidOrder : PySem.W.subIn K (.ref e_InvalidOrder) (.type "BaseException") = some true
  et_InvalidOrder : PySem.W.typeIn K (.ref e_InvalidOrder) = some (.type "type")
  ei_InvalidOrder : PySem.W.isClsIn K e_InvalidOrder = true
  e_InvalidTeam : Addr
  eg_InvalidTeam : mg "InvalidTeam" = some (.ref e_InvalidTeam)
  ex_InvalidTeam : PySem.W.excIn K e_InvalidTeam [.type "ValueError", .type "Exception", .type "BaseException", .type "object"] "ValueError.__new__" = true
  ek_InvalidTeam : PySem.W.keepIn K (.ref e_InvalidTeam) = true
  eb_InvalidTeam : PySem.W.subIn K (.ref e_InvalidTeam) (.type "BaseException") = some true
  et_InvalidTeam : PySem.W.typeIn K (.ref e_InvalidTeam) = some (.type "type")
  ei_InvalidTeam : PySem.W.isClsIn K e_InvalidTeam = true
  e_InvalidCount : Addr
  eg_InvalidCount : mg "InvalidCount" = some (.ref e_InvalidCount)
  ex_InvalidCount : PySem.W.excIn K e_InvalidCount [.type "ValueError", .type "Exception", .type "BaseException", .type "object"] "ValueError.__new__" = true
  ek_InvalidCount : PySem.W.keepIn K (.ref e_InvalidCount) = true
  eb_InvalidCount : PySem.W.subIn K (.ref e_InvalidCount) (.type "BaseException") = some true
  et_InvalidCount : PySem.W.typeIn K (.ref e_InvalidCount) = some (.type "type")
  ei_InvalidCount : PySem.W.isClsIn K e_InvalidCount = true
  e_InvalidNumber : Addr
  eg_InvalidNumber : mg "InvalidNumber" = some (.ref e_InvalidNumber)
  ex_InvalidNumber : PySem.W.excIn K e_InvalidNumber [.type "ValueError", .type "Exception", .type "BaseException", .type "object"] "ValueError.__new__" = true
  ek_InvalidNumber : PySem.W.keepIn K (.ref e_InvalidNumber) = true
  eb_InvalidNumber : PySem.W.subIn K (.ref e_InvalidNumber) (.type "BaseException") = some true
  et_InvalidNumber : PySem.W.typeIn K (.ref e_InvalidNumber) = some (.type "type")
  ei_InvalidNumber : PySem.W.isClsIn K e_InvalidNumber = true
  e_InvalidGap : Addr
  eg_InvalidGap : mg "InvalidGap" = some (.ref e_InvalidGap)
  ex_InvalidGap : PySem.W.excIn K e_InvalidGap [.type "ValueError", .type "Exception", .type "BaseException", .type "object"] "ValueError.__new__" = true
  ek_InvalidGap : PySem.W.keepIn K (.ref e_InvalidGap) = true
  eb_InvalidGap : PySem.W.subIn K (.ref e_InvalidGap) (.type "BaseException") = some true
  et_InvalidGap : PySem.W.typeIn K (.ref e_InvalidGap) = some (.type "type")
  ei_InvalidGap : PySem.W.isClsIn K e_InvalidGap = true
  e_NoScore : Addr
  eg_NoScore : mg "NoScore" = some (.ref e_NoScore)
  ex_NoScore : PySem.W.excIn K e_NoScore [.type "ValueError", .type "Exception", .type "BaseException", .type "object"] "ValueError.__new__" = true
  ek_NoScore : PySem.W.keepIn K (.ref e_NoScore) = true
  eb_NoScore : PySem.W.subIn K (.ref e_NoScore) (.type "BaseException") = some true
  et_NoScore : PySem.W.typeIn K (.ref e_NoScore) = some (.type "type")
  ei_NoScore : PySem.W.isClsIn K e_NoScore = true
  e_TooMany : Addr
  eg_TooMany : mg "TooMany" = some (.ref e_TooMany)
  ek_TooMany : PySem.W.keepIn K (.ref e_TooMany) = true
  eb_TooMany : PySem.W.subIn K (.ref e_TooMany) (.type "BaseException") = some true
  et_TooMany : PySem.W.typeIn K (.ref e_TooMany) = some (.type "type")
  ei_TooMany : PySem.W.isClsIn K e_TooMany = true
  fi_TooMany : Addr
  di_TooMany : FuncData
  Fi_TooMany : Fun K "__init__" "TooMany.__init__" s_ini_TooMany fi_TooMany di_TooMany
  bi_TooMany : Binds K di_TooMany ["self", "limit"] []
  oC_TooMany : OexC K e_TooMany
  oh_TooMany : PySem.W.findIn K (.ref e_TooMany) "limit" = some none
  oi_TooMany : PySem.W.findIn K (.ref e_TooMany) "__init__" = some (some (.ref fi_TooMany))
  ot_TooMany : PySem.W.typeIn K (.ref fi_TooMany) = some (.type "function")
  ox_TooMany : XfC K e_TooMany
  eu_TooMany : Addr
  um_TooMany : mg "PlaceError" = some (.ref eu_TooMany)
  ur_TooMany : PySem.W.readsIn K eu_TooMany (.type "type") = true
  ug_TooMany : PySem.W.specialIn K (.ref eu_TooMany) "__getattribute__" = some (some (.builtin "type.__getattribute__"))
  uv_TooMany : PySem.W.findCls K (.ref eu_TooMany) (.type "type") "__init__" = some (.val (.builtin "ValueError.__init__"))
  es_InvalidOrder_InvalidGap : PySem.W.subIn K (.ref e_InvalidOrder) (.ref e_InvalidGap) = some false
  es_InvalidOrder_NoScore : PySem.W.subIn K (.ref e_InvalidOrder) (.ref e_NoScore) = some false
  es_InvalidOrder_TooMany : PySem.W.subIn K (.ref e_InvalidOrder) (.ref e_TooMany) = some false
  es_InvalidTeam_InvalidGap : PySem.W.subIn K (.ref e_InvalidTeam) (.ref e_InvalidGap) = some false
  es_InvalidTeam_NoScore : PySem.W.subIn K (.ref e_InvalidTeam) (.ref e_NoScore) = some false
  es_InvalidTeam_TooMany : PySem.W.subIn K (.ref e_InvalidTeam) (.ref e_TooMany) = some false
  es_InvalidCount_InvalidGap : PySem.W.subIn K (.ref e_InvalidCount) (.ref e_InvalidGap) = some false
  es_InvalidCount_NoScore : PySem.W.subIn K (.ref e_InvalidCount) (.ref e_NoScore) = some false
  es_InvalidCount_TooMany : PySem.W.subIn K (.ref e_InvalidCount) (.ref e_TooMany) = some false
  es_InvalidNumber_InvalidGap : PySem.W.subIn K (.ref e_InvalidNumber) (.ref e_InvalidGap) = some false
  es_InvalidNumber_NoScore : PySem.W.subIn K (.ref e_InvalidNumber) (.ref e_NoScore) = some false
  es_InvalidNumber_TooMany : PySem.W.subIn K (.ref e_InvalidNumber) (.ref e_TooMany) = some false
  es_InvalidGap_InvalidGap : PySem.W.subIn K (.ref e_InvalidGap) (.ref e_InvalidGap) = some true
  es_InvalidGap_NoScore : PySem.W.subIn K (.ref e_InvalidGap) (.ref e_NoScore) = some false
  es_InvalidGap_TooMany : PySem.W.subIn K (.ref e_InvalidGap) (.ref e_TooMany) = some false
  es_NoScore_InvalidGap : PySem.W.subIn K (.ref e_NoScore) (.ref e_InvalidGap) = some false
  es_NoScore_NoScore : PySem.W.subIn K (.ref e_NoScore) (.ref e_NoScore) = some true
  es_NoScore_TooMany : PySem.W.subIn K (.ref e_NoScore) (.ref e_TooMany) = some false
  es_TooMany_InvalidGap : PySem.W.subIn K (.ref e_TooMany) (.ref e_InvalidGap) = some false
  es_TooMany_NoScore : PySem.W.subIn K (.ref e_TooMany) (.ref e_NoScore) = some false
  es_TooMany_TooMany : PySem.W.subIn K (.ref e_TooMany) (.ref e_TooMany) = some true
  z_abs : mg "abs" = none
  z_all : mg "all" = none
  z_bool : mg "bool" = none
  z_enumerate : mg "enumerate" = none
  z_int : mg "int" = none
  z_isinstance : mg "isinstance" = none
  z_len : mg "len" = none
  z_list : mg "list" = none
  z_max : mg "max" = none
  z_min : mg "min" = none
  z_range : mg "range" = none
  z_str : mg "str" = none
  z_sum : mg "sum" = none
  t_MOST_COUNT : Tok
  c_MOST_COUNT : mg "MOST_COUNT" = some (.int 7 t_MOST_COUNT)
  t_MOST_RUNNERS : Tok
  c_MOST_RUNNERS : mg "MOST_RUNNERS" = some (.int 40 t_MOST_RUNNERS)
  t_TEAMS : Tok
  c_TEAMS : mg "TEAMS" = some (.str (mkS [97, 98, 99, 100, 101, 102]) t_TEAMS)
def xR {K : PySem.W.Frag} {mg : Str → Option Value} (T : Txt K mg) : XRT := fun x c d H => (x = ((("InvalidOrder" : Str), none) : Ex) ∧ c = .ref T.e_InvalidOrder ∧ d = none) ∨ (x = ((("InvalidTeam" : Str), none) : Ex) ∧ c = .ref T.e_InvalidTeam ∧ d = none) ∨ (x = ((("InvalidCount" : Str), none) : Ex) ∧ c = .ref T.e_InvalidCount ∧ d = none) ∨ (x = ((("InvalidNumber" : Str), none) : Ex) ∧ c = .ref T.e_InvalidNumber ∧ d = none) ∨ (x = ((("InvalidGap" : Str), none) : Ex) ∧ c = .ref T.e_InvalidGap ∧ d = none) ∨ (x = ((("NoScore" : Str), none) : Ex) ∧ c = .ref T.e_NoScore ∧ d = none) ∨ (∃ n : Int, x = ((("TooMany" : Str), some n) : Ex) ∧ c = .ref T.e_TooMany ∧ ∃ dd, d = some dd ∧ H dd = some (.xd [(("limit" : Str), .int n)]))
theorem xr_InvalidOrder {K : PySem.W.Frag} {mg : Str → Option Value} (T : Txt K mg) (H : Hp) : xR T ((("InvalidOrder" : Str), none) : Ex) (.ref T.e_InvalidOrder) none H := .inl ⟨rfl, rfl, rfl⟩
theorem xr_InvalidTeam {K : PySem.W.Frag} {mg : Str → Option Value} (T : Txt K mg) (H : Hp) : xR T ((("InvalidTeam" : Str), none) : Ex) (.ref T.e_InvalidTeam) none H := .inr (.inl ⟨rfl, rfl, rfl⟩)
theorem xr_InvalidCount {K : PySem.W.Frag} {mg : Str → Option Value} (T : Txt K mg) (H : Hp) : xR T ((("InvalidCount" : Str), none) : Ex) (.ref T.e_InvalidCount) none H := .inr (.inr (.inl ⟨rfl, rfl, rfl⟩))
theorem xr_InvalidNumber {K : PySem.W.Frag} {mg : Str → Option Value} (T : Txt K mg) (H : Hp) : xR T ((("InvalidNumber" : Str), none) : Ex) (.ref T.e_InvalidNumber) none H := .inr (.inr (.inr (.inl ⟨rfl, rfl, rfl⟩)))
theorem xr_InvalidGap {K : PySem.W.Frag} {mg : Str → Option Value} (T : Txt K mg) (H : Hp) : xR T ((("InvalidGap" : Str), none) : Ex) (.ref T.e_InvalidGap) none H := .inr (.inr (.inr (.inr (.inl ⟨rfl, rfl, rfl⟩))))
theorem xr_NoScore {K : PySem.W.Frag} {mg : Str → Option Value} (T : Txt K mg) (H : Hp) : xR T ((("NoScore" : Str), none) : Ex) (.ref T.e_NoScore) none H := .inr (.inr (.inr (.inr (.inr (.inl ⟨rfl, rfl, rfl⟩)))))
theorem xr_TooMany {K : PySem.W.Frag} {mg : Str → Option Value} (T : Txt K mg) (n : Int) (H : Hp) (dd : Addr) (h : H dd = some (.xd [(("limit" : Str), .int n)])) : xR T ((("TooMany" : Str), some n) : Ex) (.ref T.e_TooMany) (some dd) H := .inr (.inr (.inr (.inr (.inr (.inr (⟨n, rfl, rfl, dd, rfl, h⟩))))))
theorem ini_TooMany {P : Program} {w : World} {K : PySem.W.Frag} {mg : Str → Option Value} {base : Heap} (T : Txt K mg) : FnOk P w K mg base CX0 1 T.fi_TooMany T.di_TooMany ["self", "limit"] (spIni K "limit") :=
  T.Fi_TooMany.ok sc_ini_TooMany (fun _ _ _ _ h => spIni_len h) fun cdv A outer s H vs Q E hr h => ⟨_, pss_cons (ps_expr (pe_upInit (by rfl) T.um_TooMany T.ur_TooMany T.ug_TooMany T.uv_TooMany (pa_cons (pv 0) (pa_cons pe_str pa_nil)))) (pss_one (ps_ost (pv 0) (pv 1))), by
    obtain ⟨a, C, n, rfl, o, f, e, q⟩ := h
    exact ⟨_, rfl, a, C, _, rfl, Nat.le_add_left 1 999, o, e, _, rfl, _, rfl, a, C, rfl, o, f, .inl ⟨e, q⟩⟩⟩
theorem gives__law_name {X : Cx} {K : PySem.W.Frag} {mg : Str → Option Value} (hK : X.K = K) (hmg : X.mg = mg) (T : Txt K mg) (q : Str) (cdv : Value) : LamX.GivesTo X ["call", "name", "e"] "_law_name" (defScope s__law_name) T.f__law_name cdv (defBody s__law_name) "call" q (TTg (xR T) g__law_name) := by
  subst hK hmg
  intro f c' s H Q tl act hc h
  refine ⟨_, pss_cons (ps_set (i := 1) sc__law_name.nd rfl (.inl rfl) pe_str) (pss_cons (ps_try_serves (X := (cxOf C8.CX0 X.prog X.w X.K X.mg X.base ["call", "name", "e"] "_law_name" (defScope s__law_name) T.f__law_name cdv X.A X.stack s H C8.E0).nox)
      (tb := fun W D σ H => ∃ (Ech : XK) (Q0 : VK), (∀ cls d σ' H', σ'.length = 3 → Ech cls d H' → W cls d σ' H') ∧ σ[0]? = some (some (.ref f)) ∧ H c' = some (LamX.CodeO c' q) ∧ tl Ech H Q0 ∧ ∀ v H', Q0 v H' → D.nx σ H')
      rfl rfl (fun W pn xe tk _ => ?_) (fun D => (serves_only (X := (cxOf C8.CX0 X.prog X.w X.K X.mg X.base ["call", "name", "e"] "_law_name" (defScope s__law_name) T.f__law_name cdv X.A X.stack s H C8.E0).nox) (C := .ref T.e_InvalidGap) rfl ⟨by rfl, by decide, .inl T.eg_InvalidGap⟩ (fun a oe cls d pn _ _ => pss_one (ps_set (i := 1) sc__law_name.nd rfl (.inl rfl) pe_str)) (serves_only (X := (cxOf C8.CX0 X.prog X.w X.K X.mg X.base ["call", "name", "e"] "_law_name" (defScope s__law_name) T.f__law_name cdv X.A X.stack s H C8.E0).nox) (C := .ref T.e_NoScore) rfl ⟨by rfl, by decide, .inl T.eg_NoScore⟩ (fun a oe cls d pn _ _ => pss_one (ps_set (i := 1) sc__law_name.nd rfl (.inl rfl) pe_str)) (serves_as (X := (cxOf C8.CX0 X.prog X.w X.K X.mg X.base ["call", "name", "e"] "_law_name" (defScope s__law_name) T.f__law_name cdv X.A X.stack s H C8.E0).nox) (C := .ref T.e_TooMany) (i := 2) rfl sc__law_name.nd rfl rfl ⟨by rfl, by decide, .inl T.eg_TooMany⟩ (fun a oe cls d pn hz hf => pss_one (ps_set (i := 1) sc__law_name.nd rfl (.inl rfl) (pe_op op_add_str pe_str (pe_callTy call_str_int (by rfl) T.z_str (by decide +kernel) (pa_cons (pe_xf T.ox_TooMany T.oh_TooMany hz hf (pv 2)) pa_nil))))) (serves_nil rfl rfl LamX.takes0)))))) (pss_one (ps_ret (pv 1)))), ?_⟩
  · refine ⟨fun pins s' σ H' D I h' => ?_⟩
    obtain ⟨Ech, Q0, hW, h1, h2, h3, h4⟩ := h'
    exact (pss_one (ps_expr (pe_mono (act _ pn xe Ech _ _ (takes_len tk) fun cls d σ' H' z hl => hW cls d σ' H' hl z)))).run pins s' σ H' D I ⟨Q0, ⟨h1, h2, h3⟩, h4⟩
  · refine ⟨_, _, fun cls d σ' H' hl hx => ?_, rfl, hc, h, fun v H' hv => ?_⟩
    · obtain ⟨x, r, hr, hg, hsr, hQ⟩ := hx
      match σ', hl with
      | [u0, u1, u2], _ =>
      rcases hr with ⟨rfl, rfl, rfl⟩ | ⟨rfl, rfl, rfl⟩ | ⟨rfl, rfl, rfl⟩ | ⟨rfl, rfl, rfl⟩ | ⟨rfl, rfl, rfl⟩ | ⟨rfl, rfl, rfl⟩ | ⟨n, rfl, rfl, dd, rfl, hd⟩
      · exfalso
        have h' : g__law_name (some (("InvalidOrder" : Str), none)) = none := rfl
        rw [h'] at hg; cases hg
      · exfalso
        have h' : g__law_name (some (("InvalidTeam" : Str), none)) = none := rfl
        rw [h'] at hg; cases hg
      · exfalso
        have h' : g__law_name (some (("InvalidCount" : Str), none)) = none := rfl
        rw [h'] at hg; cases hg
      · exfalso
        have h' : g__law_name (some (("InvalidNumber" : Str), none)) = none := rfl
        rw [h'] at hg; cases hg
      · have h' : g__law_name (some (("InvalidGap" : Str), none)) = some (tx [103, 97, 112]) := rfl
        rw [h'] at hg; cases hg
        have hs : (Str.ofString "gap" : Str) = mkS [103, 97, 112] := by decide +kernel
        refine ⟨true, exm_of T.eb_InvalidGap T.ei_InvalidGap T.et_InvalidGap T.es_InvalidGap_InvalidGap, fun _ a ha => ?_, fun z => by cases z⟩
        exact ⟨_, rfl, by rw [show (Str.ofString "gap" : Str) = mkS [103, 97, 112] from hs]; exact hQ⟩
      · have h' : g__law_name (some (("NoScore" : Str), none)) = some (tx [115, 99, 111, 114, 101]) := rfl
        rw [h'] at hg; cases hg
        have hs : (Str.ofString "score" : Str) = mkS [115, 99, 111, 114, 101] := by decide +kernel
        refine ⟨false, exm_of T.eb_InvalidGap T.ei_InvalidGap T.et_InvalidGap T.es_NoScore_InvalidGap, (fun z => by cases z), fun _ => ⟨true, exm_of T.eb_NoScore T.ei_NoScore T.et_NoScore T.es_NoScore_NoScore, fun _ a ha => ?_, fun z => by cases z⟩⟩
        exact ⟨_, rfl, by rw [show (Str.ofString "score" : Str) = mkS [115, 99, 111, 114, 101] from hs]; exact hQ⟩
      · have hn : n = 40 := by
          by_cases z : n = 40
          · exact z
          · exfalso
            have h' : (if ("TooMany" : Str) = "InvalidGap" then some (tx [103, 97, 112]) else if ("TooMany" : Str) = "NoScore" then some (tx [115, 99, 111, 114, 101]) else if ("TooMany" : Str) = "TooMany" ∧ (some n : Option Int) = some 40 then some (tx [109, 97, 110, 121, 52, 48]) else none) = some r := hg
            rw [if_neg (by decide), if_neg (by decide), if_neg (fun y => z (Option.some.inj y.2))] at h'
            cases h'
        subst hn
        have h' : g__law_name (some (("TooMany" : Str), some 40)) = some (tx [109, 97, 110, 121, 52, 48]) := rfl
        rw [h'] at hg; cases hg
        have hs : ((Str.ofString "many" : Str) ++ ((toString (40 : Int) : String) : Str)) = mkS [109, 97, 110, 121, 52, 48] := by decide +kernel
        refine ⟨false, exm_of T.eb_InvalidGap T.ei_InvalidGap T.et_InvalidGap T.es_TooMany_InvalidGap, (fun z => by cases z), fun _ => ⟨false, exm_of T.eb_NoScore T.ei_NoScore T.et_NoScore T.es_TooMany_NoScore, (fun z => by cases z), fun _ => ⟨true, exm_of T.eb_TooMany T.ei_TooMany T.et_TooMany T.es_TooMany_TooMany, fun _ a ha => ?_, fun z => by cases z⟩⟩⟩
        refine ⟨_, rfl, rfl, rfl, dd, _, _, rfl, hd, rfl, 40, rfl, by decide +kernel, _, _, rfl, rfl, by decide +kernel, ?_⟩
        rw [hs]
        exact ⟨_, rfl, hQ⟩
    · obtain ⟨r, hr, hsr, hQ⟩ := hv
      cases hr
      have hs : (Str.ofString "" : Str) = mkS [] := by decide +kernel
      exact ⟨_, rfl, by rw [hs]; exact hQ⟩
section
variable {P : Program} {w : World} {K : PySem.W.Frag} {mg : Str → Option Value} {base : Heap}
theorem ok_is_between (T : Txt K mg) : FnOk P w K mg base CX0 1 T.f_is_between T.d_is_between ["value", "low", "high"] (spF K w0.XR 3 m_is_between) :=
  fn_ok0 T.F_is_between sc_is_between w0.XR fun cdv A outer s H E hr => (s_one (s_ret (e_and (e_isi (T := "int") rfl (by rfl) T.z_isinstance (by rfl) T.z_int (by decide +kernel) (e_var 0)) (e_and (e_not (e_isi (T := "bool") rfl (by rfl) T.z_isinstance (by rfl) T.z_bool (by decide +kernel) (e_var 0))) (e_one (e_chain o_le o_le (e_var 1) (e_var 0) (e_var 2)))))))
theorem ok_is_text_of (T : Txt K mg) : FnOk P w K mg base CX0 1 T.f_is_text_of T.d_is_text_of ["value", "signs", "most"] (spF K w0.XR 3 m_is_text_of) :=
  fn_ok0 T.F_is_text_of sc_is_text_of w0.XR fun cdv A outer s H E hr => (s_cons (s_if ((w_or (t_not (t_val (e_isi (T := "str") rfl (by rfl) T.z_isinstance (by rfl) T.z_str (by decide +kernel) (e_var 0)))) (w_or1 (t_cmp o_gt (e_call1 call_len c_len (by rfl) T.z_len (by decide +kernel) (e_var 0)) (e_var 2) (nomark _))))).pt (s_one (s_ret e_bl)) s_nil)
    (s_one (s_ret (e_call1 (cr_all rfl) c_all (by rfl) T.z_all (by decide +kernel) (e_lc (own := [("sign", 3)]) rfl sc_is_text_of.nd (i_any (e_var 0)) (blkOk_by (N := N_is_text_of) (sc := defScope s_is_text_of) (by decide +kernel)) (fun _ _ _ _ _ => (g_name (i := 3) sc_is_text_of.nd rfl (.inl rfl))) (fun _ _ _ _ _ => ts_nil) (fun _ _ _ _ _ => (e_cmp o_in (e_var 3) (e_var 1) (by rfl))) (by decide))))))
theorem ok_is_order (T : Txt K mg) : FnOk P w K mg base CX0 2 T.f_is_order T.d_is_order ["value"] (spF K w0.XR 1 m_is_order) :=
  fn_ok0 T.F_is_order sc_is_order w0.XR fun cdv A outer s H E hr => (s_one (s_ret (e_call (ok_is_text_of T) (hr.mono (by decide)) (by rfl) T.g_is_text_of T.F_is_text_of.kp T.b_is_text_of (fun _ => passAt0) (av_cons (br := false) (e_var 0) (av_cons (br := false) (e_glob (y := (tx [97, 98, 99, 100, 101, 102])) (by rfl) T.c_TEAMS ⟨_, rfl⟩) (av_cons (br := false) (e_glob (y := (.int 40)) (by rfl) T.c_MOST_RUNNERS ⟨_, rfl⟩) av_nil))) (alen_cons (alen_cons (alen_cons alen_nil))))))
theorem ok_is_team (T : Txt K mg) : FnOk P w K mg base CX0 2 T.f_is_team T.d_is_team ["value"] (spF K w0.XR 1 m_is_team) :=
  fn_ok0 T.F_is_team sc_is_team w0.XR fun cdv A outer s H E hr => (s_one (s_ret (e_and (e_call (ok_is_text_of T) (hr.mono (by decide)) (by rfl) T.g_is_text_of T.F_is_text_of.kp T.b_is_text_of (fun _ => passAt0) (av_cons (br := false) (e_var 0) (av_cons (br := false) (e_glob (y := (tx [97, 98, 99, 100, 101, 102])) (by rfl) T.c_TEAMS ⟨_, rfl⟩) (av_cons (br := false) e_int av_nil))) (alen_cons (alen_cons (alen_cons alen_nil)))) (e_one (e_cmp (o_eq hr) (e_call1 call_len c_len (by rfl) T.z_len (by decide +kernel) (e_var 0)) e_int (nomark _))))))
theorem ok_need_order (T : Txt K mg) : FnOk P w K mg base CX0 3 T.f_need_order T.d_need_order ["order"] (spF K w0.XR 1 m_need_order) :=
  fn_ok0 T.F_need_order sc_need_order w0.XR fun cdv A outer s H E hr => (s_one (s_if (t_not (t_val (e_call (ok_is_order T) (hr.mono (by decide)) (by rfl) T.g_is_order T.F_is_order.kp T.b_is_order (fun _ => passAt0) (av_cons (br := false) (e_var 0) av_nil) (alen_cons alen_nil)))) (s_one s_never) s_nil))
theorem okx_need_order (T : Txt K mg) : FnOk P w K mg base (L2.CX P w) 3 T.f_need_order T.d_need_order ["order"] (spF K (xR T) 1 mx_need_order) :=
  fn_okX T.F_need_order sc_need_order (xR T) fun cdv A outer s H E hr => (s_one (s_if (t_not (t_val (e_call (fn_anyXR (ok_is_order T)) (hr.mono (by decide)) (by rfl) T.g_is_order T.F_is_order.kp T.b_is_order (fun _ => passAt0) (av_cons (br := false) (e_var 0) av_nil) (alen_cons alen_nil)))) (s_one (s_raise rfl (takes_of rfl rfl rfl rfl) PySem.F.excBase_ValueError T.ex_InvalidOrder T.eg_InvalidOrder T.ek_InvalidOrder T.eb_InvalidOrder T.et_InvalidOrder (xr_InvalidOrder T) (by rfl))) s_nil))
theorem ok_need_team (T : Txt K mg) : FnOk P w K mg base CX0 3 T.f_need_team T.d_need_team ["team"] (spF K w0.XR 1 m_need_team) :=
  fn_ok0 T.F_need_team sc_need_team w0.XR fun cdv A outer s H E hr => (s_one (s_if (t_not (t_val (e_call (ok_is_team T) (hr.mono (by decide)) (by rfl) T.g_is_team T.F_is_team.kp T.b_is_team (fun _ => passAt0) (av_cons (br := false) (e_var 0) av_nil) (alen_cons alen_nil)))) (s_one s_never) s_nil))
theorem okx_need_team (T : Txt K mg) : FnOk P w K mg base (L2.CX P w) 3 T.f_need_team T.d_need_team ["team"] (spF K (xR T) 1 mx_need_team) :=
  fn_okX T.F_need_team sc_need_team (xR T) fun cdv A outer s H E hr => (s_one (s_if (t_not (t_val (e_call (fn_anyXR (ok_is_team T)) (hr.mono (by decide)) (by rfl) T.g_is_team T.F_is_team.kp T.b_is_team (fun _ => passAt0) (av_cons (br := false) (e_var 0) av_nil) (alen_cons alen_nil)))) (s_one (s_raise rfl (takes_of rfl rfl rfl rfl) PySem.F.excBase_ValueError T.ex_InvalidTeam T.eg_InvalidTeam T.ek_InvalidTeam T.eb_InvalidTeam T.et_InvalidTeam (xr_InvalidTeam T) (by rfl))) s_nil))
theorem ok_need_count (T : Txt K mg) : FnOk P w K mg base CX0 2 T.f_need_count T.d_need_count ["count"] (spF K w0.XR 1 m_need_count) :=
  fn_ok0 T.F_need_count sc_need_count w0.XR fun cdv A outer s H E hr => (s_one (s_if (t_not (t_val (e_call (ok_is_between T) (hr.mono (by decide)) (by rfl) T.g_is_between T.F_is_between.kp T.b_is_between (fun _ => passAt0) (av_cons (br := false) (e_var 0) (av_cons (br := false) e_int (av_cons (br := false) (e_glob (y := (.int 7)) (by rfl) T.c_MOST_COUNT ⟨_, rfl⟩) av_nil))) (alen_cons (alen_cons (alen_cons alen_nil)))))) (s_one s_never) s_nil))
theorem okx_need_count (T : Txt K mg) : FnOk P w K mg base (L2.CX P w) 2 T.f_need_count T.d_need_count ["count"] (spF K (xR T) 1 mx_need_count) :=
  fn_okX T.F_need_count sc_need_count (xR T) fun cdv A outer s H E hr => (s_one (s_if (t_not (t_val (e_call (fn_anyXR (ok_is_between T)) (hr.mono (by decide)) (by rfl) T.g_is_between T.F_is_between.kp T.b_is_between (fun _ => passAt0) (av_cons (br := false) (e_var 0) (av_cons (br := false) e_int (av_cons (br := false) (e_glob (y := (.int 7)) (by rfl) T.c_MOST_COUNT ⟨_, rfl⟩) av_nil))) (alen_cons (alen_cons (alen_cons alen_nil)))))) (s_one (s_raise rfl (takes_of rfl rfl rfl rfl) PySem.F.excBase_ValueError T.ex_InvalidCount T.eg_InvalidCount T.ek_InvalidCount T.eb_InvalidCount T.et_InvalidCount (xr_InvalidCount T) (by rfl))) s_nil))
theorem ok_places_of (T : Txt K mg) : FnOk P w K mg base CX0 1 T.f_places_of T.d_places_of ["order", "team"] (spF K w0.XR 2 m_places_of) :=
  fn_ok0 T.F_places_of sc_places_of w0.XR fun cdv A outer s H E hr => (s_one (s_ret (e_lc (own := [("index", 2), ("other", 3)]) rfl sc_places_of.nd (i_enum (by rfl) T.z_enumerate (a_cons (e_var 0) a_nil)) (blkOk_by (N := N_places_of) (sc := defScope s_places_of) (by decide +kernel)) (fun _ _ _ _ _ => (g_tup (n := 2) rfl (gs_cons (g_name (i := 2) sc_places_of.nd rfl (.inl rfl)) (gs_cons (g_name (i := 3) sc_places_of.nd rfl (.inl rfl)) gs_nil)))) (fun _ _ _ _ _ => (ts_one (t_cmp (o_eq hr) (e_var 3) (e_var 1) (nomark _)))) (fun _ _ _ _ _ => (e_op o_add (e_var 2) e_int)) (by decide))))
theorem ok_score_of (T : Txt K mg) : FnOk P w K mg base CX0 2 T.f_score_of T.d_score_of ["order", "team", "count"] (spF K w0.XR 3 m_score_of) :=
  fn_ok0 T.F_score_of sc_score_of w0.XR fun cdv A outer s H E hr => (s_cons (s_set (i := 3) sc_score_of.nd rfl (.inl rfl) (e_call (ok_places_of T) (hr.mono (by decide)) (by rfl) T.g_places_of T.F_places_of.kp T.b_places_of (fun _ => passAt0) (av_cons (br := false) (e_var 0) (av_cons (br := false) (e_var 1) av_nil)) (alen_cons (alen_cons alen_nil))))
    (s_one (s_ret (e_if (t_cmp o_ge (e_call1 call_len c_len (by rfl) T.z_len (by decide +kernel) (e_var 3)) (e_var 2) (nomark _)) (e_call1 (cr_sum rfl) c_sum (by rfl) T.z_sum (by decide +kernel) (e_slice (e_var 3) p_none (p_some (e_var 2)))) e_non))))
theorem ok_kept (T : Txt K mg) : FnOk P w K mg base CX0 1 T.f_kept T.d_kept ["order", "teams"] (spF K w0.XR 2 m_kept) :=
  fn_ok0 T.F_kept sc_kept w0.XR fun cdv A outer s H E hr => (s_one (s_ret (e_mth (.inl rfl) PySem.F.plainAttrs_str PySem.F.slot_str_join PySem.F.type_str_join mt_join m_join (e_strL [] (by decide +kernel)) (a_cons (e_lc (own := [("team", 2)]) rfl sc_kept.nd (i_any (e_var 0)) (blkOk_by (N := N_kept) (sc := defScope s_kept) (by decide +kernel)) (fun _ _ _ _ _ => (g_name (i := 2) sc_kept.nd rfl (.inl rfl))) (fun _ _ _ _ _ => (ts_one (t_cmp o_in (e_var 2) (e_var 1) (by rfl)))) (fun _ _ _ _ _ => (e_var 2)) (by decide)) a_nil))))
theorem ok_score (T : Txt K mg) : FnOk P w K mg base CX0 4 T.f_score T.d_score ["order", "team", "count"] (spF K w0.XR 3 m_score) :=
  fn_ok0 T.F_score sc_score w0.XR fun cdv A outer s H E hr => (s_cons (s_exp (e_call (ok_need_order T) (hr.mono (by decide)) (by rfl) T.g_need_order T.F_need_order.kp T.b_need_order (fun _ => passAt0) (av_cons (br := false) (e_var 0) av_nil) (alen_cons alen_nil)))
    (s_cons (s_exp (e_call (ok_need_team T) (hr.mono (by decide)) (by rfl) T.g_need_team T.F_need_team.kp T.b_need_team (fun _ => passAt0) (av_cons (br := false) (e_var 1) av_nil) (alen_cons alen_nil)))
    (s_cons (s_exp (e_call (ok_need_count T) (hr.mono (by decide)) (by rfl) T.g_need_count T.F_need_count.kp T.b_need_count (fun _ => passAt0) (av_cons (br := false) (e_var 2) av_nil) (alen_cons alen_nil)))
    (s_one (s_ret (e_call (ok_score_of T) (hr.mono (by decide)) (by rfl) T.g_score_of T.F_score_of.kp T.b_score_of (fun _ => passAt0) (av_cons (br := false) (e_var 0) (av_cons (br := false) (e_var 1) (av_cons (br := false) (e_var 2) av_nil))) (alen_cons (alen_cons (alen_cons alen_nil)))))))))
theorem ok_need_number (T : Txt K mg) : FnOk P w K mg base CX0 2 T.f_need_number T.d_need_number ["value", "low", "high"] (spF K w0.XR 3 m_need_number) :=
  fn_ok0 T.F_need_number sc_need_number w0.XR fun cdv A outer s H E hr => (s_one (s_if (t_not (t_val (e_call (ok_is_between T) (hr.mono (by decide)) (by rfl) T.g_is_between T.F_is_between.kp T.b_is_between (fun _ => passAt0) (av_cons (br := false) (e_var 0) (av_cons (br := false) (e_var 1) (av_cons (br := false) (e_var 2) av_nil))) (alen_cons (alen_cons (alen_cons alen_nil)))))) (s_one s_never) s_nil))
theorem okx_need_number (T : Txt K mg) : FnOk P w K mg base (L2.CX P w) 2 T.f_need_number T.d_need_number ["value", "low", "high"] (spF K (xR T) 3 mx_need_number) :=
  fn_okX T.F_need_number sc_need_number (xR T) fun cdv A outer s H E hr => (s_one (s_if (t_not (t_val (e_call (fn_anyXR (ok_is_between T)) (hr.mono (by decide)) (by rfl) T.g_is_between T.F_is_between.kp T.b_is_between (fun _ => passAt0) (av_cons (br := false) (e_var 0) (av_cons (br := false) (e_var 1) (av_cons (br := false) (e_var 2) av_nil))) (alen_cons (alen_cons (alen_cons alen_nil)))))) (s_one (s_raise rfl (takes_of rfl rfl rfl rfl) PySem.F.excBase_ValueError T.ex_InvalidNumber T.eg_InvalidNumber T.ek_InvalidNumber T.eb_InvalidNumber T.et_InvalidNumber (xr_InvalidNumber T) (by rfl))) s_nil))
theorem ok_need_two (T : Txt K mg) : FnOk P w K mg base CX0 4 T.f_need_two T.d_need_two ["order", "one", "two", "count"] (spF K w0.XR 4 m_need_two) :=
  fn_ok0 T.F_need_two sc_need_two w0.XR fun cdv A outer s H E hr => (s_cons (s_exp (e_call (ok_need_order T) (hr.mono (by decide)) (by rfl) T.g_need_order T.F_need_order.kp T.b_need_order (fun _ => passAt0) (av_cons (br := false) (e_var 0) av_nil) (alen_cons alen_nil)))
    (s_cons (s_exp (e_call (ok_need_team T) (hr.mono (by decide)) (by rfl) T.g_need_team T.F_need_team.kp T.b_need_team (fun _ => passAt0) (av_cons (br := false) (e_var 1) av_nil) (alen_cons alen_nil)))
    (s_cons (s_exp (e_call (ok_need_team T) (hr.mono (by decide)) (by rfl) T.g_need_team T.F_need_team.kp T.b_need_team (fun _ => passAt0) (av_cons (br := false) (e_var 2) av_nil) (alen_cons alen_nil)))
    (s_cons (s_exp (e_call (ok_need_count T) (hr.mono (by decide)) (by rfl) T.g_need_count T.F_need_count.kp T.b_need_count (fun _ => passAt0) (av_cons (br := false) (e_var 3) av_nil) (alen_cons alen_nil)))
    (s_cons (s_if (t_cmp (o_eq hr) (e_var 1) (e_var 2) (nomark _)) (s_one s_never) s_nil)
    (s_one (s_if ((w_or (t_cmp o_is (e_call (ok_score_of T) (hr.mono (by decide)) (by rfl) T.g_score_of T.F_score_of.kp T.b_score_of (fun _ => passAt0) (av_cons (br := false) (e_var 0) (av_cons (br := false) (e_var 1) (av_cons (br := false) (e_var 3) av_nil))) (alen_cons (alen_cons (alen_cons alen_nil)))) e_non (nomark _)) (w_or1 (t_cmp o_is (e_call (ok_score_of T) (hr.mono (by decide)) (by rfl) T.g_score_of T.F_score_of.kp T.b_score_of (fun _ => passAt0) (av_cons (br := false) (e_var 0) (av_cons (br := false) (e_var 2) (av_cons (br := false) (e_var 3) av_nil))) (alen_cons (alen_cons (alen_cons alen_nil)))) e_non (nomark _))))).pt (s_one s_never) s_nil)))))))
theorem okx_need_two (T : Txt K mg) : FnOk P w K mg base (L2.CX P w) 4 T.f_need_two T.d_need_two ["order", "one", "two", "count"] (spF K (xR T) 4 mx_need_two) :=
  fn_okX T.F_need_two sc_need_two (xR T) fun cdv A outer s H E hr => (s_cons (s_exp (e_call (okx_need_order T) (hr.mono (by decide)) (by rfl) T.g_need_order T.F_need_order.kp T.b_need_order (fun σ => passAt (takes_of rfl rfl rfl rfl) σ) (av_cons (br := false) (e_var 0) av_nil) (alen_cons alen_nil)))
    (s_cons (s_exp (e_call (okx_need_team T) (hr.mono (by decide)) (by rfl) T.g_need_team T.F_need_team.kp T.b_need_team (fun σ => passAt (takes_of rfl rfl rfl rfl) σ) (av_cons (br := false) (e_var 1) av_nil) (alen_cons alen_nil)))
    (s_cons (s_exp (e_call (okx_need_team T) (hr.mono (by decide)) (by rfl) T.g_need_team T.F_need_team.kp T.b_need_team (fun σ => passAt (takes_of rfl rfl rfl rfl) σ) (av_cons (br := false) (e_var 2) av_nil) (alen_cons alen_nil)))
    (s_cons (s_exp (e_call (okx_need_count T) (hr.mono (by decide)) (by rfl) T.g_need_count T.F_need_count.kp T.b_need_count (fun σ => passAt (takes_of rfl rfl rfl rfl) σ) (av_cons (br := false) (e_var 3) av_nil) (alen_cons alen_nil)))
    (s_cons (s_if (t_cmp (o_eq hr) (e_var 1) (e_var 2) (nomark _)) (s_one (s_raise rfl (takes_of rfl rfl rfl rfl) PySem.F.excBase_ValueError T.ex_InvalidTeam T.eg_InvalidTeam T.ek_InvalidTeam T.eb_InvalidTeam T.et_InvalidTeam (xr_InvalidTeam T) (by rfl))) s_nil)
    (s_one (s_if ((w_or (t_cmp o_is (e_call (fn_anyXR (ok_score_of T)) (hr.mono (by decide)) (by rfl) T.g_score_of T.F_score_of.kp T.b_score_of (fun _ => passAt0) (av_cons (br := false) (e_var 0) (av_cons (br := false) (e_var 1) (av_cons (br := false) (e_var 3) av_nil))) (alen_cons (alen_cons (alen_cons alen_nil)))) e_non (nomark _)) (w_or1 (t_cmp o_is (e_call (fn_anyXR (ok_score_of T)) (hr.mono (by decide)) (by rfl) T.g_score_of T.F_score_of.kp T.b_score_of (fun _ => passAt0) (av_cons (br := false) (e_var 0) (av_cons (br := false) (e_var 2) (av_cons (br := false) (e_var 3) av_nil))) (alen_cons (alen_cons (alen_cons alen_nil)))) e_non (nomark _))))).pt (s_one (s_raise rfl (takes_of rfl rfl rfl rfl) PySem.F.excBase_ValueError T.ex_NoScore T.eg_NoScore T.ek_NoScore T.eb_NoScore T.et_NoScore (xr_NoScore T) (by rfl))) s_nil)))))))
theorem ok_dual_of (T : Txt K mg) : FnOk P w K mg base CX0 3 T.f_dual_of T.d_dual_of ["order", "one", "two", "count"] (spF K w0.XR 4 m_dual_of) :=
  fn_ok0 T.F_dual_of sc_dual_of w0.XR fun cdv A outer s H E hr => (s_cons (s_set (i := 4) sc_dual_of.nd rfl (.inl rfl) (e_call (ok_kept T) (hr.mono (by decide)) (by rfl) T.g_kept T.F_kept.kp T.b_kept (fun _ => passAt0) (av_cons (br := false) (e_var 0) (av_cons (br := false) (e_op o_add (e_var 1) (e_var 2)) av_nil)) (alen_cons (alen_cons alen_nil))))
    (s_one (s_ret (e_tup (a_cons (e_call (ok_score_of T) (hr.mono (by decide)) (by rfl) T.g_score_of T.F_score_of.kp T.b_score_of (fun _ => passAt0) (av_cons (br := false) (e_var 4) (av_cons (br := false) (e_var 1) (av_cons (br := false) (e_var 3) av_nil))) (alen_cons (alen_cons (alen_cons alen_nil)))) (a_cons (e_call (ok_score_of T) (hr.mono (by decide)) (by rfl) T.g_score_of T.F_score_of.kp T.b_score_of (fun _ => passAt0) (av_cons (br := false) (e_var 4) (av_cons (br := false) (e_var 2) (av_cons (br := false) (e_var 3) av_nil))) (alen_cons (alen_cons (alen_cons alen_nil)))) a_nil))))))
theorem ok_dual (T : Txt K mg) : FnOk P w K mg base CX0 5 T.f_dual T.d_dual ["order", "one", "two", "count"] (spF K w0.XR 4 m_dual) :=
  fn_ok0 T.F_dual sc_dual w0.XR fun cdv A outer s H E hr => (s_cons (s_exp (e_call (ok_need_two T) (hr.mono (by decide)) (by rfl) T.g_need_two T.F_need_two.kp T.b_need_two (fun _ => passAt0) (av_cons (br := false) (e_var 0) (av_cons (br := false) (e_var 1) (av_cons (br := false) (e_var 2) (av_cons (br := false) (e_var 3) av_nil)))) (alen_cons (alen_cons (alen_cons (alen_cons alen_nil))))))
    (s_one (s_ret (e_call (ok_dual_of T) (hr.mono (by decide)) (by rfl) T.g_dual_of T.F_dual_of.kp T.b_dual_of (fun _ => passAt0) (av_cons (br := false) (e_var 0) (av_cons (br := false) (e_var 1) (av_cons (br := false) (e_var 2) (av_cons (br := false) (e_var 3) av_nil)))) (alen_cons (alen_cons (alen_cons (alen_cons alen_nil))))))))
theorem okx_dual (T : Txt K mg) : FnOk P w K mg base (L2.CX P w) 5 T.f_dual T.d_dual ["order", "one", "two", "count"] (spF K (xR T) 4 mx_dual) :=
  fn_okX T.F_dual sc_dual (xR T) fun cdv A outer s H E hr => (s_cons (s_exp (e_call (okx_need_two T) (hr.mono (by decide)) (by rfl) T.g_need_two T.F_need_two.kp T.b_need_two (fun σ => passAt (takes_of rfl rfl rfl rfl) σ) (av_cons (br := false) (e_var 0) (av_cons (br := false) (e_var 1) (av_cons (br := false) (e_var 2) (av_cons (br := false) (e_var 3) av_nil)))) (alen_cons (alen_cons (alen_cons (alen_cons alen_nil))))))
    (s_one (s_ret (e_call (fn_anyXR (ok_dual_of T)) (hr.mono (by decide)) (by rfl) T.g_dual_of T.F_dual_of.kp T.b_dual_of (fun _ => passAt0) (av_cons (br := false) (e_var 0) (av_cons (br := false) (e_var 1) (av_cons (br := false) (e_var 2) (av_cons (br := false) (e_var 3) av_nil)))) (alen_cons (alen_cons (alen_cons (alen_cons alen_nil))))))))
theorem ok_turned (T : Txt K mg) : FnOk P w K mg base CX0 6 T.f_turned T.d_turned ["order", "one", "two", "count"] (spF K w0.XR 4 m_turned) :=
  fn_ok0 T.F_turned sc_turned w0.XR fun cdv A outer s H E hr => (s_cons (s_asg (e_call (ok_dual T) (hr.mono (by decide)) (by rfl) T.g_dual T.F_dual.kp T.b_dual (fun _ => passAt0) (av_cons (br := false) (e_var 0) (av_cons (br := false) (e_var 1) (av_cons (br := false) (e_var 2) (av_cons (br := false) (e_var 3) av_nil)))) (alen_cons (alen_cons (alen_cons (alen_cons alen_nil))))) (g_tup (n := 2) rfl (gs_cons (g_name (i := 4) sc_turned.nd rfl (.inl rfl)) (gs_cons (g_name (i := 5) sc_turned.nd rfl (.inl rfl)) gs_nil))))
    (s_cons (s_set (i := 6) sc_turned.nd rfl (.inl rfl) (e_op o_sub (e_call (ok_score_of T) (hr.mono (by decide)) (by rfl) T.g_score_of T.F_score_of.kp T.b_score_of (fun _ => passAt0) (av_cons (br := false) (e_var 0) (av_cons (br := false) (e_var 1) (av_cons (br := false) (e_var 3) av_nil))) (alen_cons (alen_cons (alen_cons alen_nil)))) (e_call (ok_score_of T) (hr.mono (by decide)) (by rfl) T.g_score_of T.F_score_of.kp T.b_score_of (fun _ => passAt0) (av_cons (br := false) (e_var 0) (av_cons (br := false) (e_var 2) (av_cons (br := false) (e_var 3) av_nil))) (alen_cons (alen_cons (alen_cons alen_nil))))))
    (s_one (s_ret (e_cmp o_lt (e_op o_mul (e_var 6) (e_op o_sub (e_var 4) (e_var 5))) e_int (nomark _))))))
theorem okx_turned (T : Txt K mg) : FnOk P w K mg base (L2.CX P w) 6 T.f_turned T.d_turned ["order", "one", "two", "count"] (spF K (xR T) 4 mx_turned) :=
  fn_okX T.F_turned sc_turned (xR T) fun cdv A outer s H E hr => (s_cons (s_asg (e_call (okx_dual T) (hr.mono (by decide)) (by rfl) T.g_dual T.F_dual.kp T.b_dual (fun σ => passAt (takes_of rfl rfl rfl rfl) σ) (av_cons (br := false) (e_var 0) (av_cons (br := false) (e_var 1) (av_cons (br := false) (e_var 2) (av_cons (br := false) (e_var 3) av_nil)))) (alen_cons (alen_cons (alen_cons (alen_cons alen_nil))))) (g_tup (n := 2) rfl (gs_cons (g_name (i := 4) sc_turned.nd rfl (.inl rfl)) (gs_cons (g_name (i := 5) sc_turned.nd rfl (.inl rfl)) gs_nil))))
    (s_cons (s_set (i := 6) sc_turned.nd rfl (.inl rfl) (e_op o_sub (e_call (fn_anyXR (ok_score_of T)) (hr.mono (by decide)) (by rfl) T.g_score_of T.F_score_of.kp T.b_score_of (fun _ => passAt0) (av_cons (br := false) (e_var 0) (av_cons (br := false) (e_var 1) (av_cons (br := false) (e_var 3) av_nil))) (alen_cons (alen_cons (alen_cons alen_nil)))) (e_call (fn_anyXR (ok_score_of T)) (hr.mono (by decide)) (by rfl) T.g_score_of T.F_score_of.kp T.b_score_of (fun _ => passAt0) (av_cons (br := false) (e_var 0) (av_cons (br := false) (e_var 2) (av_cons (br := false) (e_var 3) av_nil))) (alen_cons (alen_cons (alen_cons alen_nil))))))
    (s_one (s_ret (e_cmp o_lt (e_op o_mul (e_var 6) (e_op o_sub (e_var 4) (e_var 5))) e_int (nomark _))))))
theorem ok_gains_of (T : Txt K mg) : FnOk P w K mg base CX0 2 T.f_gains_of T.d_gains_of ["order", "one", "two", "count"] (spF K w0.XR 4 m_gains_of) :=
  fn_ok0 T.F_gains_of sc_gains_of w0.XR fun cdv A outer s H E hr => (s_cons (s_par2 (i := 4) (j := 5) rfl sc_gains_of.nd rfl rfl (by decide) rfl rfl (e_slice (e_call (ok_places_of T) (hr.mono (by decide)) (by rfl) T.g_places_of T.F_places_of.kp T.b_places_of (fun _ => passAt0) (av_cons (br := false) (e_var 0) (av_cons (br := false) (e_var 1) av_nil)) (alen_cons (alen_cons alen_nil))) p_none (p_some (e_var 3))) (e_slice (e_call (ok_places_of T) (hr.mono (by decide)) (by rfl) T.g_places_of T.F_places_of.kp T.b_places_of (fun _ => passAt0) (av_cons (br := false) (e_var 0) (av_cons (br := false) (e_var 2) av_nil)) (alen_cons (alen_cons alen_nil))) p_none (p_some (e_var 3))))
    (s_cons (s_set (i := 6) sc_gains_of.nd rfl (.inl rfl) (e_lst a_nil))
    (s_cons (s_for PassesOwn.never rfl (i_range1 (by rfl) T.z_range (a_cons (e_op o_add (e_call1 call_len c_len (by rfl) T.z_len (by decide +kernel) (e_var 0)) e_int) a_nil)) (g_name (i := 7) sc_gains_of.nd rfl (.inr rfl)) (s_cons (s_set (i := 8) sc_gains_of.nd rfl (.inl rfl) (e_call1 call_len c_len (by rfl) T.z_len (by decide +kernel) (e_lc (own := [("place", 9)]) rfl sc_gains_of.nd (i_any (e_var 4)) (blkOk_by (N := N_gains_of) (sc := defScope s_gains_of) (by decide +kernel)) (fun _ _ _ _ _ => (g_name (i := 9) sc_gains_of.nd rfl (.inl rfl))) (fun _ _ _ _ _ => (ts_one (t_cmp o_gt (e_var 9) (e_var 7) (nomark _)))) (fun _ _ _ _ _ => (e_var 9)) (by decide))))
    (s_one (s_exp (e_app (i := 6) (e_op o_sub (e_var 8) (e_call1 call_len c_len (by rfl) T.z_len (by decide +kernel) (e_lc (own := [("place", 9)]) rfl sc_gains_of.nd (i_any (e_var 5)) (blkOk_by (N := N_gains_of) (sc := defScope s_gains_of) (by decide +kernel)) (fun _ _ _ _ _ => (g_name (i := 9) sc_gains_of.nd rfl (.inl rfl))) (fun _ _ _ _ _ => (ts_one (t_cmp o_gt (e_var 9) (e_var 7) (nomark _)))) (fun _ _ _ _ _ => (e_var 9)) (by decide)))))))))
    (s_one (s_ret (e_var 6))))))
theorem ok_fewest_to_turn (T : Txt K mg) : FnOk P w K mg base CX0 5 T.f_fewest_to_turn T.d_fewest_to_turn ["order", "one", "two", "count"] (spF K w0.XR 4 m_fewest_to_turn) :=
  fn_ok0 T.F_fewest_to_turn sc_fewest_to_turn w0.XR fun cdv A outer s H E hr => (s_cons (s_exp (e_call (ok_need_two T) (hr.mono (by decide)) (by rfl) T.g_need_two T.F_need_two.kp T.b_need_two (fun _ => passAt0) (av_cons (br := false) (e_var 0) (av_cons (br := false) (e_var 1) (av_cons (br := false) (e_var 2) (av_cons (br := false) (e_var 3) av_nil)))) (alen_cons (alen_cons (alen_cons (alen_cons alen_nil))))))
    (s_cons (s_set (i := 4) sc_fewest_to_turn.nd rfl (.inl rfl) (e_op o_sub (e_call (ok_score_of T) (hr.mono (by decide)) (by rfl) T.g_score_of T.F_score_of.kp T.b_score_of (fun _ => passAt0) (av_cons (br := false) (e_var 0) (av_cons (br := false) (e_var 2) (av_cons (br := false) (e_var 3) av_nil))) (alen_cons (alen_cons (alen_cons alen_nil)))) (e_call (ok_score_of T) (hr.mono (by decide)) (by rfl) T.g_score_of T.F_score_of.kp T.b_score_of (fun _ => passAt0) (av_cons (br := false) (e_var 0) (av_cons (br := false) (e_var 1) (av_cons (br := false) (e_var 3) av_nil))) (alen_cons (alen_cons (alen_cons alen_nil))))))
    (s_cons (s_if (t_cmp o_lt (e_var 4) e_int (nomark _)) (s_one (s_ret e_int)) s_nil)
    (s_cons (s_set (i := 5) sc_fewest_to_turn.nd rfl (.inl rfl) (e_call1 (cr_max rfl) c_max (by rfl) T.z_max (by decide +kernel) (e_call (ok_gains_of T) (hr.mono (by decide)) (by rfl) T.g_gains_of T.F_gains_of.kp T.b_gains_of (fun _ => passAt0) (av_cons (br := false) (e_var 0) (av_cons (br := false) (e_var 1) (av_cons (br := false) (e_var 2) (av_cons (br := false) (e_var 3) av_nil)))) (alen_cons (alen_cons (alen_cons (alen_cons alen_nil)))))))
    (s_one (s_ret (e_if (t_cmp o_gt (e_var 5) e_int (nomark _)) (e_op o_add (e_op o_div (e_var 4) (e_var 5)) e_int) e_non)))))))
theorem okx_fewest_to_turn (T : Txt K mg) : FnOk P w K mg base (L2.CX P w) 5 T.f_fewest_to_turn T.d_fewest_to_turn ["order", "one", "two", "count"] (spF K (xR T) 4 mx_fewest_to_turn) :=
  fn_okX T.F_fewest_to_turn sc_fewest_to_turn (xR T) fun cdv A outer s H E hr => (s_cons (s_exp (e_call (okx_need_two T) (hr.mono (by decide)) (by rfl) T.g_need_two T.F_need_two.kp T.b_need_two (fun σ => passAt (takes_of rfl rfl rfl rfl) σ) (av_cons (br := false) (e_var 0) (av_cons (br := false) (e_var 1) (av_cons (br := false) (e_var 2) (av_cons (br := false) (e_var 3) av_nil)))) (alen_cons (alen_cons (alen_cons (alen_cons alen_nil))))))
    (s_cons (s_set (i := 4) sc_fewest_to_turn.nd rfl (.inl rfl) (e_op o_sub (e_call (fn_anyXR (ok_score_of T)) (hr.mono (by decide)) (by rfl) T.g_score_of T.F_score_of.kp T.b_score_of (fun _ => passAt0) (av_cons (br := false) (e_var 0) (av_cons (br := false) (e_var 2) (av_cons (br := false) (e_var 3) av_nil))) (alen_cons (alen_cons (alen_cons alen_nil)))) (e_call (fn_anyXR (ok_score_of T)) (hr.mono (by decide)) (by rfl) T.g_score_of T.F_score_of.kp T.b_score_of (fun _ => passAt0) (av_cons (br := false) (e_var 0) (av_cons (br := false) (e_var 1) (av_cons (br := false) (e_var 3) av_nil))) (alen_cons (alen_cons (alen_cons alen_nil))))))
    (s_cons (s_if (t_cmp o_lt (e_var 4) e_int (nomark _)) (s_one (s_ret e_int)) s_nil)
    (s_cons (s_set (i := 5) sc_fewest_to_turn.nd rfl (.inl rfl) (e_call1 (cr_max rfl) c_max (by rfl) T.z_max (by decide +kernel) (e_call (fn_anyXR (ok_gains_of T)) (hr.mono (by decide)) (by rfl) T.g_gains_of T.F_gains_of.kp T.b_gains_of (fun _ => passAt0) (av_cons (br := false) (e_var 0) (av_cons (br := false) (e_var 1) (av_cons (br := false) (e_var 2) (av_cons (br := false) (e_var 3) av_nil)))) (alen_cons (alen_cons (alen_cons (alen_cons alen_nil)))))))
    (s_one (s_ret (e_if (t_cmp o_gt (e_var 5) e_int (nomark _)) (e_op o_add (e_op o_div (e_var 4) (e_var 5)) e_int) e_non)))))))
theorem ok_put_in (T : Txt K mg) : FnOk P w K mg base CX0 4 T.f_put_in T.d_put_in ["order", "gap", "team", "number"] (spF K w0.XR 4 m_put_in) :=
  fn_ok0 T.F_put_in sc_put_in w0.XR fun cdv A outer s H E hr => (s_cons (s_exp (e_call (ok_need_order T) (hr.mono (by decide)) (by rfl) T.g_need_order T.F_need_order.kp T.b_need_order (fun _ => passAt0) (av_cons (br := false) (e_var 0) av_nil) (alen_cons alen_nil)))
    (s_cons (s_if (t_not (t_val (e_call (ok_is_between T) (hr.mono (by decide)) (by rfl) T.g_is_between T.F_is_between.kp T.b_is_between (fun _ => passAt0) (av_cons (br := false) (e_var 1) (av_cons (br := false) e_int (av_cons (br := false) (e_call1 call_len c_len (by rfl) T.z_len (by decide +kernel) (e_var 0)) av_nil))) (alen_cons (alen_cons (alen_cons alen_nil)))))) (s_one s_never) s_nil)
    (s_cons (s_exp (e_call (ok_need_team T) (hr.mono (by decide)) (by rfl) T.g_need_team T.F_need_team.kp T.b_need_team (fun _ => passAt0) (av_cons (br := false) (e_var 2) av_nil) (alen_cons alen_nil)))
    (s_cons (s_exp (e_call (ok_need_number T) (hr.mono (by decide)) (by rfl) T.g_need_number T.F_need_number.kp T.b_need_number (fun _ => passAt0) (av_cons (br := false) (e_var 3) (av_cons (br := false) e_int (av_cons (br := false) (e_glob (y := (.int 40)) (by rfl) T.c_MOST_RUNNERS ⟨_, rfl⟩) av_nil))) (alen_cons (alen_cons (alen_cons alen_nil)))))
    (s_cons (s_if (t_cmp o_gt (e_op o_add (e_call1 call_len c_len (by rfl) T.z_len (by decide +kernel) (e_var 0)) (e_var 3)) (e_glob (y := (.int 40)) (by rfl) T.c_MOST_RUNNERS ⟨_, rfl⟩) (nomark _)) (s_one s_never) s_nil)
    (s_one (s_ret (e_op o_add (e_op o_add (e_slice (e_var 0) p_none (p_some (e_var 1))) (e_op o_mul (e_var 2) (e_var 3))) (e_slice (e_var 0) (p_some (e_var 1)) p_none)))))))))
theorem okx_put_in (T : Txt K mg) : FnOk P w K mg base (L2.CX P w) 4 T.f_put_in T.d_put_in ["order", "gap", "team", "number"] (spF K (xR T) 4 mx_put_in) :=
  fn_okX T.F_put_in sc_put_in (xR T) fun cdv A outer s H E hr => (s_cons (s_exp (e_call (okx_need_order T) (hr.mono (by decide)) (by rfl) T.g_need_order T.F_need_order.kp T.b_need_order (fun σ => passAt (takes_of rfl rfl rfl rfl) σ) (av_cons (br := false) (e_var 0) av_nil) (alen_cons alen_nil)))
    (s_cons (s_if (t_not (t_val (e_call (fn_anyXR (ok_is_between T)) (hr.mono (by decide)) (by rfl) T.g_is_between T.F_is_between.kp T.b_is_between (fun _ => passAt0) (av_cons (br := false) (e_var 1) (av_cons (br := false) e_int (av_cons (br := false) (e_call1 call_len c_len (by rfl) T.z_len (by decide +kernel) (e_var 0)) av_nil))) (alen_cons (alen_cons (alen_cons alen_nil)))))) (s_one (s_raise rfl (takes_of rfl rfl rfl rfl) PySem.F.excBase_ValueError T.ex_InvalidGap T.eg_InvalidGap T.ek_InvalidGap T.eb_InvalidGap T.et_InvalidGap (xr_InvalidGap T) (by rfl))) s_nil)
    (s_cons (s_exp (e_call (okx_need_team T) (hr.mono (by decide)) (by rfl) T.g_need_team T.F_need_team.kp T.b_need_team (fun σ => passAt (takes_of rfl rfl rfl rfl) σ) (av_cons (br := false) (e_var 2) av_nil) (alen_cons alen_nil)))
    (s_cons (s_exp (e_call (okx_need_number T) (hr.mono (by decide)) (by rfl) T.g_need_number T.F_need_number.kp T.b_need_number (fun σ => passAt (takes_of rfl rfl rfl rfl) σ) (av_cons (br := false) (e_var 3) (av_cons (br := false) e_int (av_cons (br := false) (e_glob (y := (.int 40)) (by rfl) T.c_MOST_RUNNERS ⟨_, rfl⟩) av_nil))) (alen_cons (alen_cons (alen_cons alen_nil)))))
    (s_cons (s_if (t_cmp o_gt (e_op o_add (e_call1 call_len c_len (by rfl) T.z_len (by decide +kernel) (e_var 0)) (e_var 3)) (e_glob (y := (.int 40)) (by rfl) T.c_MOST_RUNNERS ⟨_, rfl⟩) (nomark _)) (s_one (s_raiseI rfl (takes_of rfl rfl rfl rfl) T.oC_TooMany T.oh_TooMany T.oi_TooMany T.ot_TooMany (ini_TooMany T) (hr.mono (by decide)) T.bi_TooMany (by rfl) T.eg_TooMany (fun n H dd h => xr_TooMany T n H dd h) (e_glob (y := (.int 40)) (by rfl) T.c_MOST_RUNNERS ⟨_, rfl⟩))) s_nil)
    (s_one (s_ret (e_op o_add (e_op o_add (e_slice (e_var 0) p_none (p_some (e_var 1))) (e_op o_mul (e_var 2) (e_var 3))) (e_slice (e_var 0) (p_some (e_var 1)) p_none)))))))))
theorem ok__law_source (T : Txt K mg) : FnOk P w K mg base CX0 1 T.f__law_source T.d__law_source ["script", "index"] (spF K w0.XR 2 m__law_source) :=
  fn_ok0 T.F__law_source sc__law_source w0.XR fun cdv A outer s H E hr => (s_cons (s_set (i := 2) sc__law_source.nd rfl (.inl rfl) e_int)
    (s_cons (s_if (t_cmp o_lt (e_var 1) (e_lenScr (i := 0) rfl (by first | exact Or.inl rfl | exact Or.inr (Or.inl rfl) | exact Or.inr (Or.inr rfl)) (by rfl) T.z_len (by decide +kernel)) (nomark _)) (s_one (s_set (i := 2) sc__law_source.nd rfl (.inl rfl) (e_call1 call_abs c_abs (by rfl) T.z_abs (by decide +kernel) (e_ixScr (i := 0) rfl (by first | exact Or.inl rfl | exact Or.inr (Or.inl rfl) | exact Or.inr (Or.inr rfl)) (e_var 1) (fun _ _ => rfl))))) s_nil)
    (s_cons (s_if (t_cmp o_lt (e_var 2) (e_op o_pow e_int e_int) (nomark _)) (s_one (s_ret (e_lst (a_cons e_int (a_cons (e_op o_add e_int (e_op o_mod (e_op o_add (e_op o_mul (e_var 2) e_int) (e_op o_mul e_int (e_var 1))) e_int)) a_nil))))) s_nil)
    (s_one (s_ret (e_lst (a_cons (e_var 2) (a_cons (e_op o_add e_int (e_op o_mod (e_op o_add (e_var 2) (e_var 1)) e_int)) a_nil))))))))
theorem ok__law_draw (T : Txt K mg) : FnOk P w K mg base CX0 1 T.f__law_draw T.d__law_draw ["source", "size"] (spF K w0.XR 2 m__law_draw) :=
  fn_ok0 T.F__law_draw sc__law_draw w0.XR fun cdv A outer s H E hr => (s_cons (s_if (t_cmp o_gt (e_ix o_ix (e_var 0) e_int (fun _ _ => rfl)) e_int (nomark _)) (s_cons (s_set (i := 2) sc__law_draw.nd rfl (.inl rfl) (e_op o_mod (e_ix o_ix (e_var 0) e_int (fun _ _ => rfl)) (e_var 1)))
    (s_cons (s_setIx (i := 0) e_int (e_op o_div (e_ix o_ix (e_var 0) e_int (fun _ _ => rfl)) (e_var 1)))
    (s_one (s_ret (e_var 2))))) s_nil)
    (s_cons (s_setIx (i := 0) e_int (e_op o_mod (e_op o_mul (e_ix o_ix (e_var 0) e_int (fun _ _ => rfl)) e_int) e_int))
    (s_one (s_ret (e_op o_mod (e_op o_div (e_op o_mod (e_op o_mul (e_ix o_ix (e_var 0) e_int (fun _ _ => rfl)) (e_ix o_ix (e_var 0) e_int (fun _ _ => rfl))) e_int) e_int) (e_var 1))))))
theorem ok__law_choice (T : Txt K mg) : FnOk P w K mg base CX0 2 T.f__law_choice T.d__law_choice ["source", "items"] (spF K w0.XR 2 m__law_choice) :=
  fn_ok0 T.F__law_choice sc__law_choice w0.XR fun cdv A outer s H E hr => (s_one (s_ret (e_ix o_ix (e_var 1) (e_call (ok__law_draw T) (hr.mono (by decide)) (by rfl) T.g__law_draw T.F__law_draw.kp T.b__law_draw (fun _ => passAt0) (av_cons (br := true) (e_var 0) (av_cons (br := false) (e_call1 call_len c_len (by rfl) T.z_len (by decide +kernel) (e_var 1)) av_nil)) (alen_cons (alen_cons alen_nil))) (fun _ _ => rfl))))
theorem ok__law_order (T : Txt K mg) : FnOk P w K mg base CX0 3 T.f__law_order T.d__law_order ["source", "teams", "most"] (spF K w0.XR 3 m__law_order) :=
  fn_ok0 T.F__law_order sc__law_order w0.XR fun cdv A outer s H E hr => (s_cons (s_par2 (i := 3) (j := 4) rfl sc__law_order.nd rfl rfl (by decide) rfl rfl (e_strL [] (by decide +kernel)) (e_ix o_ix (e_var 1) e_int (fun _ _ => rfl)))
    (s_cons (s_for PassesOwn.never rfl (i_range1 (by rfl) T.z_range (a_cons (e_call (ok__law_draw T) (hr.mono (by decide)) (by rfl) T.g__law_draw T.F__law_draw.kp T.b__law_draw (fun _ => passAt0) (av_cons (br := true) (e_var 0) (av_cons (br := false) (e_op o_add (e_var 2) e_int) av_nil)) (alen_cons (alen_cons alen_nil))) a_nil)) (g_name (i := 5) sc__law_order.nd rfl (.inl rfl)) (s_cons (s_set (i := 4) sc__law_order.nd rfl (.inl rfl) (e_call (ok__law_choice T) (hr.mono (by decide)) (by rfl) T.g__law_choice T.F__law_choice.kp T.b__law_choice (fun _ => passAt0) (av_cons (br := true) (e_var 0) (av_cons (br := false) (e_op o_add (e_callT1 (call_listA rfl) (fun _ _ _ q => ⟨_, rfl, q⟩) (by rfl) T.z_list (by decide +kernel) (e_var 1)) (e_lst (a_cons (e_var 4) a_nil))) av_nil)) (alen_cons (alen_cons alen_nil))))
    (s_one (s_set (i := 3) sc__law_order.nd rfl (.inl rfl) (e_op o_add (e_var 3) (e_var 4))))))
    (s_one (s_ret (e_var 3)))))
theorem ok__law_places (T : Txt K mg) : FnOk P w K mg base CX0 1 T.f__law_places T.d__law_places ["order", "team"] (spF K w0.XR 2 m__law_places) :=
  fn_ok0 T.F__law_places sc__law_places w0.XR fun cdv A outer s H E hr => (s_cons (s_par2 (i := 2) (j := 3) rfl sc__law_places.nd rfl rfl (by decide) rfl rfl (e_lst a_nil) e_int)
    (s_cons (s_for PassesOwn.never rfl (i_any (e_var 0)) (g_name (i := 4) sc__law_places.nd rfl (.inl rfl)) (s_cons (s_set (i := 3) sc__law_places.nd rfl (.inl rfl) (e_op o_add (e_var 3) e_int))
    (s_one (s_if (t_cmp (o_eq hr) (e_var 4) (e_var 1) (nomark _)) (s_one (s_exp (e_app (i := 2) (e_var 3)))) s_nil))))
    (s_one (s_ret (e_var 2)))))
theorem ok__law_score (T : Txt K mg) : FnOk P w K mg base CX0 2 T.f__law_score T.d__law_score ["order", "team", "count"] (spF K w0.XR 3 m__law_score) :=
  fn_ok0 T.F__law_score sc__law_score w0.XR fun cdv A outer s H E hr => (s_cons (s_set (i := 3) sc__law_score.nd rfl (.inl rfl) (e_call (ok__law_places T) (hr.mono (by decide)) (by rfl) T.g__law_places T.F__law_places.kp T.b__law_places (fun _ => passAt0) (av_cons (br := false) (e_var 0) (av_cons (br := false) (e_var 1) av_nil)) (alen_cons (alen_cons alen_nil))))
    (s_one (s_ret (e_if (t_cmp o_ge (e_call1 call_len c_len (by rfl) T.z_len (by decide +kernel) (e_var 3)) (e_var 2) (nomark _)) (e_call1 (cr_sum rfl) c_sum (by rfl) T.z_sum (by decide +kernel) (e_slice (e_var 3) p_none (p_some (e_var 2)))) e_non))))
theorem ok__law_rest (T : Txt K mg) : FnOk P w K mg base CX0 1 T.f__law_rest T.d__law_rest ["order", "teams"] (spF K w0.XR 2 m__law_rest) :=
  fn_ok0 T.F__law_rest sc__law_rest w0.XR fun cdv A outer s H E hr => (s_cons (s_set (i := 2) sc__law_rest.nd rfl (.inl rfl) (e_strL [] (by decide +kernel)))
    (s_cons (s_for PassesOwn.never rfl (i_any (e_var 0)) (g_name (i := 3) sc__law_rest.nd rfl (.inl rfl)) (s_one (s_if (t_cmp o_in (e_var 3) (e_callT1 (call_listA rfl) (fun _ _ _ q => ⟨_, rfl, q⟩) (by rfl) T.z_list (by decide +kernel) (e_var 1)) (by rfl)) (s_one (s_set (i := 2) sc__law_rest.nd rfl (.inl rfl) (e_op o_add (e_var 2) (e_var 3)))) s_nil)))
    (s_one (s_ret (e_var 2)))))
theorem ok__law_pair_right (T : Txt K mg) : FnOk P w K mg base CX0 7 T.f__law_pair_right T.d__law_pair_right ["order", "one", "two", "count"] (spF K w0.XR 4 m__law_pair_right) :=
  fn_ok0 T.F__law_pair_right sc__law_pair_right w0.XR fun cdv A outer s H E hr => (s_cons (s_set (i := 4) sc__law_pair_right.nd rfl (.inl rfl) (e_call (ok__law_rest T) (hr.mono (by decide)) (by rfl) T.g__law_rest T.F__law_rest.kp T.b__law_rest (fun _ => passAt0) (av_cons (br := false) (e_var 0) (av_cons (br := false) (e_op o_add (e_var 1) (e_var 2)) av_nil)) (alen_cons (alen_cons alen_nil))))
    (s_cons (s_par2 (i := 5) (j := 6) rfl sc__law_pair_right.nd rfl rfl (by decide) rfl rfl (e_call (ok__law_score T) (hr.mono (by decide)) (by rfl) T.g__law_score T.F__law_score.kp T.b__law_score (fun _ => passAt0) (av_cons (br := false) (e_var 4) (av_cons (br := false) (e_var 1) (av_cons (br := false) (e_var 3) av_nil))) (alen_cons (alen_cons (alen_cons alen_nil)))) (e_call (ok__law_score T) (hr.mono (by decide)) (by rfl) T.g__law_score T.F__law_score.kp T.b__law_score (fun _ => passAt0) (av_cons (br := false) (e_var 4) (av_cons (br := false) (e_var 2) (av_cons (br := false) (e_var 3) av_nil))) (alen_cons (alen_cons (alen_cons alen_nil)))))
    (s_cons (s_par2 (i := 7) (j := 8) rfl sc__law_pair_right.nd rfl rfl (by decide) rfl rfl (e_op o_sub (e_call (ok__law_score T) (hr.mono (by decide)) (by rfl) T.g__law_score T.F__law_score.kp T.b__law_score (fun _ => passAt0) (av_cons (br := false) (e_var 0) (av_cons (br := false) (e_var 1) (av_cons (br := false) (e_var 3) av_nil))) (alen_cons (alen_cons (alen_cons alen_nil)))) (e_call (ok__law_score T) (hr.mono (by decide)) (by rfl) T.g__law_score T.F__law_score.kp T.b__law_score (fun _ => passAt0) (av_cons (br := false) (e_var 0) (av_cons (br := false) (e_var 2) (av_cons (br := false) (e_var 3) av_nil))) (alen_cons (alen_cons (alen_cons alen_nil))))) (e_op o_sub (e_var 5) (e_var 6)))
    (s_cons (s_if ((w_or (t_cmp (o_ne hr) (e_call (ok_dual T) (hr.mono (by decide)) (by rfl) T.g_dual T.F_dual.kp T.b_dual (fun _ => passAt0) (av_cons (br := false) (e_var 0) (av_cons (br := false) (e_var 1) (av_cons (br := false) (e_var 2) (av_cons (br := false) (e_var 3) av_nil)))) (alen_cons (alen_cons (alen_cons (alen_cons alen_nil))))) (e_tup (a_cons (e_var 5) (a_cons (e_var 6) a_nil))) (nomark _)) (w_or1 (t_cmp (o_ne hr) (e_call (ok_dual T) (hr.mono (by decide)) (by rfl) T.g_dual T.F_dual.kp T.b_dual (fun _ => passAt0) (av_cons (br := false) (e_var 0) (av_cons (br := false) (e_var 2) (av_cons (br := false) (e_var 1) (av_cons (br := false) (e_var 3) av_nil)))) (alen_cons (alen_cons (alen_cons (alen_cons alen_nil))))) (e_tup (a_cons (e_var 6) (a_cons (e_var 5) a_nil))) (nomark _))))).pt (s_one (s_ret e_bl)) s_nil)
    (s_cons (s_set (i := 9) sc__law_pair_right.nd rfl (.inl rfl) (e_call (ok_turned T) (hr.mono (by decide)) (by rfl) T.g_turned T.F_turned.kp T.b_turned (fun _ => passAt0) (av_cons (br := false) (e_var 0) (av_cons (br := false) (e_var 1) (av_cons (br := false) (e_var 2) (av_cons (br := false) (e_var 3) av_nil)))) (alen_cons (alen_cons (alen_cons (alen_cons alen_nil))))))
    (s_cons (s_if ((w_or (t_not (t_val (e_isi (T := "bool") rfl (by rfl) T.z_isinstance (by rfl) T.z_bool (by decide +kernel) (e_var 9)))) (w_or1 (t_cmp (o_ne hr) (e_var 9) (e_or (e_and (e_cmp o_lt (e_var 7) e_int (nomark _)) (e_one (e_cmp o_gt (e_var 8) e_int (nomark _)))) (e_one (e_and (e_cmp o_gt (e_var 7) e_int (nomark _)) (e_one (e_cmp o_lt (e_var 8) e_int (nomark _)))))) (nomark _))))).pt (s_one (s_ret e_bl)) s_nil)
    (s_cons (s_for PassesOwn.never rfl (i_any (e_strL [97, 98, 99, 100, 101] (by decide +kernel))) (g_name (i := 10) sc__law_pair_right.nd rfl (.inr rfl)) (s_one (s_if (t_cmp o_notin (e_var 10) (e_tup (a_cons (e_var 1) (a_cons (e_var 2) a_nil))) (by rfl)) (s_cons (s_set (i := 11) sc__law_pair_right.nd rfl (.inl rfl) (e_mth (.inl rfl) PySem.F.plainAttrs_str PySem.F.slot_str_join PySem.F.type_str_join mt_join m_join (e_strL [] (by decide +kernel)) (a_cons (e_lc (own := [("other", 12)]) rfl sc__law_pair_right.nd (i_any (e_var 0)) (blkOk_by (N := N__law_pair_right) (sc := defScope s__law_pair_right) (by decide +kernel)) (fun _ _ _ _ _ => (g_name (i := 12) sc__law_pair_right.nd rfl (.inl rfl))) (fun _ _ _ _ _ => (ts_one (t_cmp (o_ne hr) (e_var 12) (e_var 10) (nomark _)))) (fun _ _ _ _ _ => (e_var 12)) (by decide)) a_nil)))
    (s_one (s_if (t_cmp o_gt (e_call (ok_score T) (hr.mono (by decide)) (by rfl) T.g_score T.F_score.kp T.b_score (fun _ => passAt0) (av_cons (br := false) (e_var 11) (av_cons (br := false) (e_var 1) (av_cons (br := false) (e_var 3) av_nil))) (alen_cons (alen_cons (alen_cons alen_nil)))) (e_call (ok_score T) (hr.mono (by decide)) (by rfl) T.g_score T.F_score.kp T.b_score (fun _ => passAt0) (av_cons (br := false) (e_var 0) (av_cons (br := false) (e_var 1) (av_cons (br := false) (e_var 3) av_nil))) (alen_cons (alen_cons (alen_cons alen_nil)))) (nomark _)) (s_one (s_ret e_bl)) s_nil))) s_nil)))
    (s_one (s_ret (e_or (e_cmp o_gt (e_var 3) e_int (nomark _)) (e_one (e_not (e_var 9)))))))))))))
theorem ok_law (T : Txt K mg) (TB : ∀ n ∈ lamNames, ∀ c P, PySem.W.tabIn K n = some (c, P) → LamX.TabB base mg c P) : FnOk P w K mg base CX0 9 T.f_law T.d_law ["script"] (spF K w0.XR 1 m_law) :=
  fn_okC T.F_law sc_law w0.XR fun cdv A outer s H E hcd hr => (s_cons (s_for PassesOwn.never rfl (i_range1 (by rfl) T.z_range (a_cons (e_op o_add e_int (e_callN (call_min2 rfl) c_min2 (by rfl) T.z_min (by decide +kernel) (a_cons (e_lenScr (i := 0) rfl (by first | exact Or.inl rfl | exact Or.inr (Or.inl rfl) | exact Or.inr (Or.inr rfl)) (by rfl) T.z_len (by decide +kernel)) (a_cons e_int a_nil)))) a_nil)) (g_name (i := 1) sc_law.nd rfl (.inl rfl)) (s_cons (s_set (i := 2) sc_law.nd rfl (.inl rfl) (e_call (ok__law_source T) (hr.mono (by decide)) (by rfl) T.g__law_source T.F__law_source.kp T.b__law_source (fun _ => passAt0) (av_cons (br := true) (e_var 0) (av_cons (br := false) (e_var 1) av_nil)) (alen_cons (alen_cons alen_nil))))
    (s_cons (s_asg (e_tup (a_cons (e_call (ok__law_order T) (hr.mono (by decide)) (by rfl) T.g__law_order T.F__law_order.kp T.b__law_order (fun _ => passAt0) (av_cons (br := true) (e_var 2) (av_cons (br := false) (e_slice (e_strL [97, 98, 99, 100, 101] (by decide +kernel)) p_none (p_some (e_op o_add e_int (e_call (ok__law_draw T) (hr.mono (by decide)) (by rfl) T.g__law_draw T.F__law_draw.kp T.b__law_draw (fun _ => passAt0) (av_cons (br := true) (e_var 2) (av_cons (br := false) e_int av_nil)) (alen_cons (alen_cons alen_nil)))))) (av_cons (br := false) e_int av_nil))) (alen_cons (alen_cons (alen_cons alen_nil)))) (a_cons (e_op o_add e_int (e_call (ok__law_draw T) (hr.mono (by decide)) (by rfl) T.g__law_draw T.F__law_draw.kp T.b__law_draw (fun _ => passAt0) (av_cons (br := true) (e_var 2) (av_cons (br := false) e_int av_nil)) (alen_cons (alen_cons alen_nil)))) a_nil))) (g_tup (n := 2) rfl (gs_cons (g_name (i := 3) sc_law.nd rfl (.inr rfl)) (gs_cons (g_name (i := 4) sc_law.nd rfl (.inr rfl)) gs_nil))))
    (s_cons (s_for PassesOwn.never rfl (i_any (e_strL [97, 98, 99, 100, 101] (by decide +kernel))) (g_name (i := 5) sc_law.nd rfl (.inr rfl)) (s_one (s_for PassesOwn.never rfl (i_any (e_strL [97, 98, 99, 100, 101] (by decide +kernel))) (g_name (i := 6) sc_law.nd rfl (.inr rfl)) (s_one (s_if (t_cmp (o_ne hr) (e_var 5) (e_var 6) (nomark _)) (s_one (s_if ((w_or (t_cmp o_is (e_call (ok__law_score T) (hr.mono (by decide)) (by rfl) T.g__law_score T.F__law_score.kp T.b__law_score (fun _ => passAt0) (av_cons (br := false) (e_var 3) (av_cons (br := false) (e_var 5) (av_cons (br := false) (e_var 4) av_nil))) (alen_cons (alen_cons (alen_cons alen_nil)))) e_non (nomark _)) (w_or1 (t_cmp o_is (e_call (ok__law_score T) (hr.mono (by decide)) (by rfl) T.g__law_score T.F__law_score.kp T.b__law_score (fun _ => passAt0) (av_cons (br := false) (e_var 3) (av_cons (br := false) (e_var 6) (av_cons (br := false) (e_var 4) av_nil))) (alen_cons (alen_cons (alen_cons alen_nil)))) e_non (nomark _))))).pt (s_cons (s_if (t_cmp (o_ne hr) (e_told (XR := xR T) (g := g__law_name) (k := 6) (n := "law") gs__law_name (by rfl) T.g__law_name T.F__law_name T.b__law_name sc__law_name rfl (by first | exact Or.inl rfl | exact Or.inr (Or.inl rfl)) (by decide) rfl T.tn_law T.tu_law (fun cdv => gives__law_name (K := K) (mg := mg) rfl rfl T _ cdv) (TB "law" (by decide) _ _ T.tn_law) (hcd.symm.trans T.dc_law) (hr.mono (by decide)) (LamX.lamS_by (sc := defScope s_law) (by decide +kernel)) rfl (fun _ _ _ _ _ => rfl) (fun A outer s H E f c' hr => (e_call (okx_turned T) (hr.mono (by decide)) (by rfl) T.g_turned T.F_turned.kp T.b_turned (fun σ => passAt (takes_of rfl rfl rfl rfl) σ) (av_cons (br := false) (e_var 3) (av_cons (br := false) (e_var 5) (av_cons (br := false) (e_var 6) (av_cons (br := false) (e_var 4) av_nil)))) (alen_cons (alen_cons (alen_cons (alen_cons alen_nil))))))) (e_strL [115, 99, 111, 114, 101] (by decide +kernel)) (nomark _)) (s_one (s_ret e_bl)) s_nil)
    (s_one (s_if (t_cmp (o_ne hr) (e_told (XR := xR T) (g := g__law_name) (k := 5) (n := "law") gs__law_name (by rfl) T.g__law_name T.F__law_name T.b__law_name sc__law_name rfl (by first | exact Or.inl rfl | exact Or.inr (Or.inl rfl)) (by decide) rfl T.tn_law T.tu_law (fun cdv => gives__law_name (K := K) (mg := mg) rfl rfl T _ cdv) (TB "law" (by decide) _ _ T.tn_law) (hcd.symm.trans T.dc_law) (hr.mono (by decide)) (LamX.lamS_by (sc := defScope s_law) (by decide +kernel)) rfl (fun _ _ _ _ _ => rfl) (fun A outer s H E f c' hr => (e_call (okx_fewest_to_turn T) (hr.mono (by decide)) (by rfl) T.g_fewest_to_turn T.F_fewest_to_turn.kp T.b_fewest_to_turn (fun σ => passAt (takes_of rfl rfl rfl rfl) σ) (av_cons (br := false) (e_var 3) (av_cons (br := false) (e_var 5) (av_cons (br := false) (e_var 6) (av_cons (br := false) (e_var 4) av_nil)))) (alen_cons (alen_cons (alen_cons (alen_cons alen_nil))))))) (e_strL [115, 99, 111, 114, 101] (by decide +kernel)) (nomark _)) (s_one (s_ret e_bl)) s_nil))) (s_one (s_if (t_not (t_val (e_call (ok__law_pair_right T) (hr.mono (by decide)) (by rfl) T.g__law_pair_right T.F__law_pair_right.kp T.b__law_pair_right (fun _ => passAt0) (av_cons (br := false) (e_var 3) (av_cons (br := false) (e_var 5) (av_cons (br := false) (e_var 6) (av_cons (br := false) (e_var 4) av_nil)))) (alen_cons (alen_cons (alen_cons (alen_cons alen_nil))))))) (s_one (s_ret e_bl)) s_nil)))) s_nil)))))
    (s_cons (s_par2 (i := 7) (j := 8) rfl sc_law.nd rfl rfl (by decide) rfl rfl (e_call (ok__law_draw T) (hr.mono (by decide)) (by rfl) T.g__law_draw T.F__law_draw.kp T.b__law_draw (fun _ => passAt0) (av_cons (br := true) (e_var 2) (av_cons (br := false) (e_op o_add (e_call1 call_len c_len (by rfl) T.z_len (by decide +kernel) (e_var 3)) e_int) av_nil)) (alen_cons (alen_cons alen_nil))) (e_call (ok__law_draw T) (hr.mono (by decide)) (by rfl) T.g__law_draw T.F__law_draw.kp T.b__law_draw (fun _ => passAt0) (av_cons (br := true) (e_var 2) (av_cons (br := false) (e_op o_sub e_int (e_call1 call_len c_len (by rfl) T.z_len (by decide +kernel) (e_var 3))) av_nil)) (alen_cons (alen_cons alen_nil))))
    (s_cons (s_if (t_cmp (o_ne hr) (e_call (ok_put_in T) (hr.mono (by decide)) (by rfl) T.g_put_in T.F_put_in.kp T.b_put_in (fun _ => passAt0) (av_cons (br := false) (e_var 3) (av_cons (br := false) (e_var 7) (av_cons (br := false) (e_strL [99] (by decide +kernel)) (av_cons (br := false) (e_var 8) av_nil)))) (alen_cons (alen_cons (alen_cons (alen_cons alen_nil))))) (e_op o_add (e_op o_add (e_slice (e_var 3) p_none (p_some (e_var 7))) (e_op o_mul (e_strL [99] (by decide +kernel)) (e_var 8))) (e_slice (e_var 3) (p_some (e_var 7)) p_none)) (nomark _)) (s_one (s_ret e_bl)) s_nil)
    (s_cons (s_for PassesOwn.never rfl (i_any (e_lst (a_cons e_non (a_cons (e_un o_neg e_int) (a_cons (e_op o_add (e_call1 call_len c_len (by rfl) T.z_len (by decide +kernel) (e_var 3)) e_int) (a_cons e_bl (a_cons (e_strL [48] (by decide +kernel)) a_nil))))))) (g_name (i := 9) sc_law.nd rfl (.inr rfl)) (s_one (s_if (t_cmp (o_ne hr) (e_told (XR := xR T) (g := g__law_name) (k := 4) (n := "law") gs__law_name (by rfl) T.g__law_name T.F__law_name T.b__law_name sc__law_name rfl (by first | exact Or.inl rfl | exact Or.inr (Or.inl rfl)) (by decide) rfl T.tn_law T.tu_law (fun cdv => gives__law_name (K := K) (mg := mg) rfl rfl T _ cdv) (TB "law" (by decide) _ _ T.tn_law) (hcd.symm.trans T.dc_law) (hr.mono (by decide)) (LamX.lamS_by (sc := defScope s_law) (by decide +kernel)) rfl (fun _ _ _ _ _ => rfl) (fun A outer s H E f c' hr => (e_call (okx_put_in T) (hr.mono (by decide)) (by rfl) T.g_put_in T.F_put_in.kp T.b_put_in (fun σ => passAt (takes_of rfl rfl rfl rfl) σ) (av_cons (br := false) (e_var 3) (av_cons (br := false) (e_var 9) (av_cons (br := false) e_non (av_cons (br := false) e_non av_nil)))) (alen_cons (alen_cons (alen_cons (alen_cons alen_nil))))))) (e_strL [103, 97, 112] (by decide +kernel)) (nomark _)) (s_one (s_ret e_bl)) s_nil)))
    (s_one (s_if (t_cmp (o_ne hr) (e_told (XR := xR T) (g := g__law_name) (k := 4) (n := "law") gs__law_name (by rfl) T.g__law_name T.F__law_name T.b__law_name sc__law_name rfl (by first | exact Or.inl rfl | exact Or.inr (Or.inl rfl)) (by decide) rfl T.tn_law T.tu_law (fun cdv => gives__law_name (K := K) (mg := mg) rfl rfl T _ cdv) (TB "law" (by decide) _ _ T.tn_law) (hcd.symm.trans T.dc_law) (hr.mono (by decide)) (LamX.lamS_by (sc := defScope s_law) (by decide +kernel)) rfl (fun _ _ _ _ _ => rfl) (fun A outer s H E f c' hr => (e_call (okx_put_in T) (hr.mono (by decide)) (by rfl) T.g_put_in T.F_put_in.kp T.b_put_in (fun σ => passAt (takes_of rfl rfl rfl rfl) σ) (av_cons (br := false) (e_op o_add (e_var 3) (e_strL [97] (by decide +kernel))) (av_cons (br := false) e_int (av_cons (br := false) (e_strL [97] (by decide +kernel)) (av_cons (br := false) e_int av_nil)))) (alen_cons (alen_cons (alen_cons (alen_cons alen_nil))))))) (e_strL [109, 97, 110, 121, 52, 48] (by decide +kernel)) (nomark _)) (s_one (s_ret e_bl)) s_nil)))))))))
    (s_cons (s_if ((w_or (t_cmp o_isnot (e_call (ok_turned T) (hr.mono (by decide)) (by rfl) T.g_turned T.F_turned.kp T.b_turned (fun _ => passAt0) (av_cons (br := false) (e_strL [97, 97, 98, 98, 98, 99, 99, 99, 99, 97] (by decide +kernel)) (av_cons (br := false) (e_strL [97] (by decide +kernel)) (av_cons (br := false) (e_strL [98] (by decide +kernel)) (av_cons (br := false) e_int av_nil)))) (alen_cons (alen_cons (alen_cons (alen_cons alen_nil))))) e_bl (nomark _)) (w_or1 (t_cmp (o_ne hr) (e_call (ok_dual T) (hr.mono (by decide)) (by rfl) T.g_dual T.F_dual.kp T.b_dual (fun _ => passAt0) (av_cons (br := false) (e_strL [97, 98, 98, 97, 97, 99, 98, 99, 99] (by decide +kernel)) (av_cons (br := false) (e_strL [98] (by decide +kernel)) (av_cons (br := false) (e_strL [99] (by decide +kernel)) (av_cons (br := false) e_int av_nil)))) (alen_cons (alen_cons (alen_cons (alen_cons alen_nil))))) (e_tup (a_cons e_int (a_cons e_int a_nil))) (nomark _))))).pt (s_one (s_ret e_bl)) s_nil)
    (s_one (s_ret (e_and (e_cmp (o_eq hr) (e_call (ok_put_in T) (hr.mono (by decide)) (by rfl) T.g_put_in T.F_put_in.kp T.b_put_in (fun _ => passAt0) (av_cons (br := false) (e_strL [97, 98, 97, 98] (by decide +kernel)) (av_cons (br := false) e_int (av_cons (br := false) (e_strL [99] (by decide +kernel)) (av_cons (br := false) e_int av_nil)))) (alen_cons (alen_cons (alen_cons (alen_cons alen_nil))))) (e_strL [97, 98, 99, 99, 97, 98] (by decide +kernel)) (nomark _)) (e_one (e_cmp o_is (e_call (ok_turned T) (hr.mono (by decide)) (by rfl) T.g_turned T.F_turned.kp T.b_turned (fun _ => passAt0) (av_cons (br := false) (e_strL [97, 98, 98, 97, 97, 99, 98, 99, 99] (by decide +kernel)) (av_cons (br := false) (e_strL [97] (by decide +kernel)) (av_cons (br := false) (e_strL [98] (by decide +kernel)) (av_cons (br := false) e_int av_nil)))) (alen_cons (alen_cons (alen_cons (alen_cons alen_nil))))) e_bl (nomark _))))))))
end
end Gx

namespace Gx
open PySem PySem.Spec PyProof.Rows L2 Pv
theorem e_is_between {v a b : Int} : m_is_between [.d (.int v), .d (.int a), .d (.int b)] = some (.ok (.d (.bool (betB v a b))) [.no, .no, .no]) := by
  unfold m_is_between b_is_between betB
  rw [mFun0_ap]
  simp
  rw [chain_eq (x := .int a) (y := .int v) (z := .int b) (b := decide (a ≤ v)) (c := decide (v ≤ b))] <;> simp
theorem e_is_text_of {l s : List Nat} {n : Int} (hl : l.length ≤ 1000000) : m_is_text_of [.d (tx l), .d (tx s), .d (.int n)] = some (.ok (.d (.bool (letB l s n))) [.no, .no, .no]) := by
  unfold m_is_text_of b_is_text_of letB
  rw [mFun0_ap]
  simp [hl]
  by_cases h : n < l.length
  · simp [h]
    omega
  · have h' : (l.length : Int) ≤ n := by omega
    simp [h, h']
    rw [mLc_map (xs := l) (ρ1 := [.d (tx l), .d (tx s), .d (.int n), .no]) (fun c => tx [c]) (fun c => [.d (tx l), .d (tx s), .d (.int n), .d (tx [c])]) (fun _ => true) (fun c => .bool (decide (c ∈ s))) (by simp) hl (by simp)]
    simp
theorem e_is_order {l : List Nat} (hl : l.length ≤ 1000000) : m_is_order [.d (tx l)] = some (.ok (.d (.bool (letB l AB 40))) [.no]) := by
  unfold m_is_order b_is_order
  rw [mFun0_ap]
  simp [e_is_text_of hl]
theorem e_need_order {l : List Nat} (h : Ord l) : m_need_order [.d (tx l)] = some (.ok (.d .none) [.no]) := by
  unfold m_need_order b_need_order
  rw [mFun0_ap]
  simp [e_is_order h.le, h.b]
theorem e_is_team {c : Nat} (h : c ∈ AB) : m_is_team [.d (tx [c])] = some (.ok (.d (.bool true)) [.no]) := by
  unfold m_is_team b_is_team
  rw [mFun0_ap]
  have h' : letB [c] AB 1 = true := letB_iff.mpr ⟨by simp, fun x hx => by rw [List.mem_singleton.mp hx]; exact h⟩
  simp [e_is_text_of, h']
theorem e_need_team {c : Nat} (h : c ∈ AB) : m_need_team [.d (tx [c])] = some (.ok (.d .none) [.no]) := by
  unfold m_need_team b_need_team
  rw [mFun0_ap]
  simp [e_is_team h]
theorem e_need_count {n : Int} (h : 1 ≤ n) (h2 : n ≤ 7) : m_need_count [.d (.int n)] = some (.ok (.d .none) [.no]) := by
  unfold m_need_count b_need_count
  rw [mFun0_ap]
  simp [e_is_between, betB_iff.mpr ⟨h, h2⟩]
theorem e_places_of {o : List Nat} {t : Nat} (hl : o.length ≤ 1000000) : m_places_of [.d (tx o), .d (tx [t])] = some (.ok (.o (.l ((pl o t).map fun p => .int (p : Nat)))) [.no, .no]) := by
  unfold m_places_of b_places_of
  rw [mFun0_ap]
  simp
  rw [mLc_map (xs := o.zipIdx 0) (ρ1 := [.d (tx o), .d (tx [t]), .no, .no]) (fun p => .tuple [.int p.2, tx [p.1]]) (fun p => [.d (tx o), .d (tx [t]), .d (.int p.2), .d (tx [p.1])]) (fun p => decide (p.1 = t)) (fun p => .int (p.2 + 1)) (by simp [enumD_eq]) (by rw [List.length_zipIdx]; exact hl) (by simp), plF_zip]
  simp [pl]
theorem e_score_of {o : List Nat} {t c : Nat} (hl : o.length ≤ 1000000) : m_score_of [.d (tx o), .d (tx [t]), .d (.int c)] = some (.ok (.d (optI (score o t c))) [.no, .no, .no]) := by
  unfold m_score_of b_score_of
  rw [mFun0_ap]
  simp [e_places_of hl]
  unfold score scoreN
  by_cases h : c ≤ (pl o t).length
  · have h' : ((c : Int) ≤ (pl o t).length) := by omega
    simp [h, h', fSum_nat, -List.map_take]
  · have h' : ¬ ((c : Int) ≤ (pl o t).length) := by omega
    simp [h, h']
theorem e_kept {o s : List Nat} (hl : o.length ≤ 1000000) : m_kept [.d (tx o), .d (tx s)] = some (.ok (.d (tx (o.filter fun c => decide (c ∈ s)))) [.no, .no]) := by
  unfold m_kept b_kept
  rw [mFun0_ap]
  simp
  rw [mLc_map (xs := o) (ρ1 := [.d (tx o), .d (tx s), .no]) (fun p => tx [p]) (fun p => [.d (tx o), .d (tx s), .d (tx [p])]) (fun p => decide (p ∈ s)) (fun p => tx [p]) (by simp) hl (by simp)]
  have h2 : (o.filter fun c => decide (c ∈ s)).length ≤ 1000000 := Nat.le_trans (List.length_filter_le ..) hl
  simp [fJoin_letters h2]
theorem e_score {o : List Nat} {t c : Nat} (h : Ord o) (ht : t ∈ AB) (h1 : 1 ≤ c) (h7 : c ≤ 7) : m_score [.d (tx o), .d (tx [t]), .d (.int c)] = some (.ok (.d (optI (score o t c))) [.no, .no, .no]) := by
  unfold m_score b_score
  rw [mFun0_ap]
  simp [e_need_order h, e_need_team ht, e_score_of h.le, e_need_count (n := (c : Int)) (by omega) (by omega)]
theorem e_need_number {v a b : Int} (h : a ≤ v) (h2 : v ≤ b) : m_need_number [.d (.int v), .d (.int a), .d (.int b)] = some (.ok (.d .none) [.no, .no, .no]) := by
  unfold m_need_number b_need_number
  rw [mFun0_ap]
  simp [e_is_between, betB_iff.mpr ⟨h, h2⟩]
theorem e_need_two {o : List Nat} {s t c : Nat} (h : Ord o) (hs : s ∈ AB) (ht : t ∈ AB) (hst : s ≠ t) (h1 : 1 ≤ c) (h7 : c ≤ 7) (z1 : c ≤ (pl o s).length) (z2 : c ≤ (pl o t).length) : m_need_two [.d (tx o), .d (tx [s]), .d (tx [t]), .d (.int c)] = some (.ok (.d .none) [.no, .no, .no, .no]) := by
  unfold m_need_two b_need_two
  rw [mFun0_ap]
  simp [e_need_order h, e_need_team hs, e_need_team ht, e_need_count (n := (c : Int)) (by omega) (by omega), hst, e_score_of h.le, score, scoreN, z1, z2]
abbrev fstL (o : List Nat) (t c : Nat) : PyData := .list (((pl o t).take c).map fun p => .int (p : Nat))
theorem gain_lc {o : List Nat} {t c g : Nat} (j : Nat) {ρ : Rho} {s s9 : Sl} (ho : o.length ≤ 1000000) (hj : ρ[j]? = some s) (hv : vwS s = some (fstL o t c)) (h7 : ρ[7]? = some (.d (.int g))) (h9 : ρ[9]? = some s9) (n9 : nrS s9 = true) (hj7 : j ≠ 7) (hj9 : j ≠ 9) :
    mOp1 fLen (mLc (mIter (mVar j)) (gNm 9) (mTest (mOp2 fGt (mVar 9) (mVar 7))) (mVar 9) [9]) ρ = some (.ok (.d (.int (behind o t c g))) ((ρ.set j (.d (fstL o t c))).set 9 .no)) := by
  have l7 : 7 < ρ.length := (List.getElem?_eq_some_iff.mp h7).1
  have l9 : 9 < ρ.length := (List.getElem?_eq_some_iff.mp h9).1
  have lj : j < ρ.length := (List.getElem?_eq_some_iff.mp hj).1
  have e := mLc_map (mi := mIter (mVar j)) (g := gNm 9) (t := mTest (mOp2 fGt (mVar 9) (mVar 7))) (me := mVar 9) (vs := [9]) (ρ := ρ) (xs := (pl o t).take c) (ρ1 := ρ.set j (.d (fstL o t c))) (fun p => .int (p : Nat)) (fun p => (((ρ.set j (.d (fstL o t c))).set 9 .no).set 9 (.d (.int (p : Nat))))) (fun p => decide (g < p)) (fun p => .int (p : Nat))
    (by rw [mIter_ap, mFrz_var hj hv]; rfl) (Nat.le_trans (Nat.le_trans (List.length_take_le' ..) (pl_len_le o t)) ho) (by
      intro x hx
      simp [h7, l9, List.getElem?_set, hj7])
  simp only [mOp1_ap, e, bd_ok, rd_ol, fLen_l, List.length_map, Option.map_some, ofVr_it, wipeR_cons, wipeR_nil]
  rfl
theorem l_gains {o : List Nat} {s t c g : Nat} {acc : List PyData} {s4 s5 s8 : Sl} (ho : o.length ≤ 1000000) (ha : acc.length < 1000000) (v4 : vwS s4 = some (fstL o s c)) (v5 : vwS s5 = some (fstL o t c)) (n8 : nrS s8 = true) :
    l_gains_of_0 [.d (tx o), .d (tx [s]), .d (tx [t]), .d (.int c), s4, s5, .o (.l acc), .d (.int g), s8, .no] =
      some (.nx [.d (tx o), .d (tx [s]), .d (tx [t]), .d (.int c), .d (fstL o s c), .d (fstL o t c), .o (.l (acc ++ [.int (gain o s t c g)])), .d (.int g), .d (.int (behind o s c g)), .no]) := by
  unfold l_gains_of_0
  rw [mSeq_nx (ρ1 := [.d (tx o), .d (tx [s]), .d (tx [t]), .d (.int c), .d (fstL o s c), s5, .o (.l acc), .d (.int g), .d (.int (behind o s c g)), .no]) (by
    rw [mSet_ap, gain_lc (o := o) (t := s) (c := c) (g := g) 4 ho rfl v4 rfl rfl rfl (by decide) (by decide)]
    simp [n8])]
  rw [mExp_ap, mApp_ap]
  simp only [getOc_ap]
  simp only [List.getElem?_cons_succ, List.getElem?_cons_zero, mFrz_ap, mOp2_ap, mVar_ap, bd_ok]
  rw [gain_lc (o := o) (t := t) (c := c) (g := g) 5 ho rfl v5 rfl rfl rfl (by decide) (by decide)]
  simp [ha, gain]
theorem e_gains_of {o : List Nat} {s t c : Nat} (h : Ord o) : m_gains_of [.d (tx o), .d (tx [s]), .d (tx [t]), .d (.int c)] = some (.ok (.o (.l ((gains o s t c).map .int))) [.no, .no, .no, .no]) := by
  have ho := h.le
  have h40 := h.1
  obtain ⟨ρ', e, s4, s5, s7, s8, hρ, v4, v5, n7, n8⟩ := loopF_go (g := gNm 7) (b := l_gains_of_0) (fun g : Nat => PyData.int (g : Nat))
    (fun pre ρ => ∃ s4 s5 s7 s8, ρ = [.d (tx o), .d (tx [s]), .d (tx [t]), .d (.int c), s4, s5, .o (.l (pre.map fun g => .int (gain o s t c g))), s7, s8, .no] ∧ vwS s4 = some (fstL o s c) ∧ vwS s5 = some (fstL o t c) ∧ nrS s7 = true ∧ nrS s8 = true)
    (List.range (o.length + 1)) (ρ := [.d (tx o), .d (tx [s]), .d (tx [t]), .d (.int c), .o (.l (((pl o s).take c).map fun p => .int (p : Nat))), .o (.l (((pl o t).take c).map fun p => .int (p : Nat))), .o (.l []), .no, .no, .no])
    ⟨_, _, _, _, rfl, rfl, rfl, rfl, rfl⟩ (fun pre g post ρ hg ⟨s4, s5, s7, s8, hρ, v4, v5, n7, n8⟩ => by
      subst hρ
      have hl : pre.length < 1000000 := by
        have := congrArg List.length hg
        rw [List.length_range, List.length_append, List.length_cons] at this
        omega
      refine ⟨[.d (tx o), .d (tx [s]), .d (tx [t]), .d (.int c), s4, s5, .o (.l (pre.map fun g => .int (gain o s t c g))), .d (.int g), s8, .no], _, by simp [n7], l_gains ho (by rw [List.length_map]; exact hl) v4 v5 n8, .d (fstL o s c), .d (fstL o t c), .d (.int g), .d (.int (behind o s c g)), by rw [List.map_append]; rfl, rfl, rfl, rfl, rfl⟩)
  subst hρ
  unfold m_gains_of b_gains_of
  rw [mFun0_ap]
  simp [e_places_of ho, ho, rngR_eq (o.length + 1) (i := (o.length : Int) + 1) rfl (by omega), -List.map_take]
  rw [List.map_take, List.map_take] at e
  rw [e]
  simp [gains, Function.comp_def]
def sc0 (o : List Nat) (t c : Nat) : Int := (((pl o t).take c).sum : Nat)
def lead (o : List Nat) (a b c : Nat) : Int := sc0 o b c - sc0 o a c
def fewest (o : List Nat) (a b c : Nat) : Option Int := if lead o a b c < 0 then some 0 else if 0 < best o a b c then some (lead o a b c / best o a b c + 1) else none
theorem score_sc {o : List Nat} {t c : Nat} (z : c ≤ (pl o t).length) : score o t c = some (sc0 o t c) := by unfold score scoreN sc0; rw [if_pos z]; rfl
theorem gain_abs (o : List Nat) (a b c g : Nat) (h : o.length ≤ 40) : (gain o a b c g).natAbs ≤ 40 := by
  have z : ∀ t, behind o t c g ≤ 40 := fun t => Nat.le_trans (Nat.le_trans (List.length_filter_le ..) (Nat.le_trans (List.length_take_le' ..) (pl_len_le o t))) h
  have h1 := z a
  have h2 := z b
  unfold gain
  omega
theorem best_abs (o : List Nat) (a b c : Nat) (h : o.length ≤ 40) : (best o a b c).natAbs ≤ 40 := by
  obtain ⟨g, _, _, e⟩ := best_at o a b c
  rw [← e]
  exact gain_abs o a b c g h
theorem e_fewest_to_turn {o : List Nat} {s t c : Nat} (h : Ord o) (hs : s ∈ AB) (ht : t ∈ AB) (hst : s ≠ t) (h1 : 1 ≤ c) (h7 : c ≤ 7) (z1 : c ≤ (pl o s).length) (z2 : c ≤ (pl o t).length) : m_fewest_to_turn [.d (tx o), .d (tx [s]), .d (tx [t]), .d (.int c)] = some (.ok (.d (optI (fewest o s t c))) [.no, .no, .no, .no]) := by
  unfold m_fewest_to_turn b_fewest_to_turn
  rw [mFun0_ap]
  have hb := best_abs o s t c h.1
  simp [e_need_two h hs ht hst h1 h7 z1 z2, e_score_of h.le, score_sc z1, score_sc z2, e_gains_of h, best_max]
  unfold fewest
  by_cases l : lead o s t c < 0
  · have l' := l
    unfold lead at l'
    simp [l, l', e_gains_of h, best_max]
  · have l' := l
    unfold lead at l'
    simp [l, l', e_gains_of h, best_max]
    by_cases b : 0 < best o s t c
    · have b2 : (best o s t c).natAbs < 1073741824 := by omega
      simp [b, b2, lead, e_gains_of h, best_max]
    · simp [b, e_gains_of h, best_max]
theorem few_lt {o : List Nat} {a b c : Nat} {num e : Int} (h : fewest o a b c = some num) (he : e = num ∨ e = num + 1) (h0 : 0 < e) : lead o a b c < e * best o a b c := by
  have hb := best_nonneg o a b c
  unfold fewest at h
  by_cases l : lead o a b c < 0
  · rw [if_pos l] at h
    exact Int.lt_of_lt_of_le l (Int.mul_nonneg (Int.le_of_lt h0) hb)
  · rw [if_neg l] at h
    by_cases p : 0 < best o a b c
    · rw [if_pos p] at h
      have h1 := Option.some.inj h
      have h2 := Int.lt_ediv_add_one_mul_self (lead o a b c) p
      rw [h1] at h2
      rcases he with rfl | rfl
      · exact h2
      · rw [Int.add_mul, Int.one_mul]; omega
    · rw [if_neg p] at h; cases h
theorem few_ge {o : List Nat} {a b c : Nat} {num : Int} (h : fewest o a b c = some num) (h0 : 0 < num) : (num - 1) * best o a b c ≤ lead o a b c := by
  unfold fewest at h
  by_cases l : lead o a b c < 0
  · rw [if_pos l] at h; have := Option.some.inj h; omega
  · rw [if_neg l] at h
    by_cases p : 0 < best o a b c
    · rw [if_pos p] at h
      have h1 := Option.some.inj h
      have e : num - 1 = lead o a b c / best o a b c := by omega
      rw [e]
      exact Int.ediv_mul_le _ (by omega)
    · rw [if_neg p] at h; cases h
theorem few_none {o : List Nat} {a b c : Nat} (h : fewest o a b c = none) : 9 * best o a b c ≤ lead o a b c := by
  have hb := best_nonneg o a b c
  unfold fewest at h
  by_cases l : lead o a b c < 0
  · rw [if_pos l] at h; cases h
  · rw [if_neg l] at h
    by_cases p : 0 < best o a b c
    · rw [if_pos p] at h; cases h
    · omega
theorem few_pos {o : List Nat} {a b c : Nat} {num : Int} (h : fewest o a b c = some num) : 0 ≤ num := by
  unfold fewest at h
  by_cases l : lead o a b c < 0
  · rw [if_pos l] at h; have := Option.some.inj h; omega
  · rw [if_neg l] at h
    by_cases p : 0 < best o a b c
    · rw [if_pos p] at h
      have := Int.ediv_nonneg (a := lead o a b c) (b := best o a b c) (by omega) (by omega)
      have := Option.some.inj h
      omega
    · rw [if_neg p] at h; cases h
theorem wide_sc {o : List Nat} {t c g e : Nat} (hg : g ≤ o.length) (ht : 102 ≠ t) (z : c ≤ (pl o t).length) : score (putO o g 102 e) t c = some (sc0 o t c + e * behind o t c g) := by
  rw [score_put hg ht, score_sc z]; rfl
/-- a order with e runners put in at the best gap: the lead and the gain tell which team is ahead -/
theorem wide_lead {o : List Nat} {a b c g e : Nat} (hg : gain o a b c g = best o a b c) : (sc0 o b c + e * behind o b c g < sc0 o a c + (e : Int) * behind o a c g) ↔ lead o a b c < e * best o a b c := by
  rw [← hg]
  unfold lead gain
  rw [Int.mul_sub]
  omega
theorem pl_put_len {o : List Nat} {g x n t : Nat} (h : g ≤ o.length) (hx : x ≠ t) : (pl (putO o g x n) t).length = (pl o t).length := by rw [pl_put h hx, List.length_map]
theorem sc0_put {o : List Nat} {t c g x n : Nat} (hg : g ≤ o.length) (hx : x ≠ t) (z : c ≤ (pl o t).length) : sc0 (putO o g x n) t c = sc0 o t c + (n : Int) * behind o t c g := by
  have h1 := score_put (n := n) (c := c) hg hx
  rw [score_sc z, score_sc (by rw [pl_put_len hg hx]; exact z)] at h1
  exact Option.some.inj h1
theorem lead_put {o : List Nat} {s t c g x n : Nat} (hg : g ≤ o.length) (hs : x ≠ s) (ht : x ≠ t) (z1 : c ≤ (pl o s).length) (z2 : c ≤ (pl o t).length) : lead (putO o g x n) s t c = lead o s t c - (n : Int) * gain o s t c g := by
  unfold lead gain
  rw [sc0_put hg hs z1, sc0_put hg ht z2, Int.mul_sub]
  omega
theorem rep_one (n x : Nat) : (List.replicate n [x]).flatten = List.replicate n x := by
  induction n with
  | zero => rfl
  | succ n ih => rw [List.replicate_succ, List.flatten_cons, ih]; rfl
theorem e_put_in {o : List Nat} {g x n : Nat} (h : Ord o) (hg : g ≤ o.length) (hx : x ∈ AB) (hn : o.length + n ≤ 40) : m_put_in [.d (tx o), .d (.int g), .d (tx [x]), .d (.int n)] = some (.ok (.d (tx (putO o g x n))) [.no, .no, .no, .no]) := by
  unfold m_put_in b_put_in
  rw [mFun0_ap]
  have ho := h.le
  have hb : betB g 0 o.length = true := betB_iff.mpr ⟨by omega, by omega⟩
  have e1 : ¬ (40 : Int) < (o.length : Int) + n := by omega
  simp [e_need_order h, e_is_between, hb, e_need_team hx, e_need_number (v := (n : Int)) (a := 0) (b := 40) (by omega) (by omega), ho, e1, fMul_s (a := [x]) n rfl (by omega) (by rw [List.length_singleton]; omega), rep_one]
  have l1 : min g o.length + n ≤ 1000000 := by omega
  have l2 : min g o.length + n + (o.length - g) ≤ 1000000 := by omega
  simp [ho, l1, l2, putO]
theorem e__law_source {ns : List Int} {k : Nat} : ∃ a b, Src a b ∧ m__law_source [.scr ns, .d (.int k)] = some (.ok (.o (srcO a b)) [.no, .no]) := by
  have main : ∀ (cell : Int) (ρ0 : Rho), 0 ≤ cell → mSeq (mSet 2 (mC (.int 0))) (mIfS (mTest (mOp2 fLt (mVar 1) (mLenScr 0))) (mSet 2 (mOp1 fAbs (mIxScr 0 (mVar 1)))) mPass) [.scr ns, .d (.int k), .no] = some (.nx [.scr ns, .d (.int k), .d (.int cell)]) → ∃ a b, Src a b ∧ m__law_source [.scr ns, .d (.int k)] = some (.ok (.o (srcO a b)) [.no, .no]) := by
    intro cell ρ0 hc e
    rw [mSeq_ap] at e
    have e1 : mSet 2 (mC (.int 0)) [.scr ns, .d (.int k), .no] = some (.nx [.scr ns, .d (.int k), .d (.int 0)]) := by simp
    rw [e1] at e
    have e2 : mIfS (mTest (mOp2 fLt (mVar 1) (mLenScr 0))) (mSet 2 (mOp1 fAbs (mIxScr 0 (mVar 1)))) mPass [.scr ns, .d (.int k), .d (.int 0)] = some (.nx [.scr ns, .d (.int k), .d (.int cell)]) := e
    by_cases h : cell < 1000000000000000000
    · refine ⟨0, 1 + (cell * 7919 + 104729 * k) % 2147483646, ⟨by omega, by omega, by omega⟩, ?_⟩
      unfold m__law_source b__law_source
      rw [mFun0_ap]
      show noEr (finF 2 (mSeq _ (mSeq _ (mSeq _ _)) [.scr ns, .d (.int k), .no])) = _
      rw [mSeq_nx e1, mSeq_nx e2]
      simp [h]
    · refine ⟨cell, 1 + (cell + k) % 2147483646, ⟨by omega, by omega, by omega⟩, ?_⟩
      unfold m__law_source b__law_source
      rw [mFun0_ap]
      show noEr (finF 2 (mSeq _ (mSeq _ (mSeq _ _)) [.scr ns, .d (.int k), .no])) = _
      rw [mSeq_nx e1, mSeq_nx e2]
      simp [h]
  by_cases hk : k < ns.length
  · refine main (if ns[k] < 0 then -ns[k] else ns[k]) [] (by split <;> omega) ?_
    have e := atI_nat (l := ns) (k := k) (i := (k : Int)) rfl
    rw [List.getElem?_eq_getElem hk] at e
    simp [hk, e]
  · refine main 0 [] (by omega) ?_
    simp [hk]
theorem e__law_draw {a b : Int} {n : Nat} (h : Src a b) (hn : 0 < n) (hn2 : n < 1073741824) : ∃ (d : Nat) (a' b' : Int), Src a' b' ∧ d < n ∧ m__law_draw [.r (srcO a b), .d (.int n)] = some (.ok (.d (.int d)) [.r (srcO a' b'), .no]) := by
  obtain ⟨ha, hb, hb2⟩ := h
  have n1 : (0 : Int) < n := by omega
  by_cases c : 0 < a
  · have q1 := Int.emod_nonneg a (b := (n : Int)) (by omega)
    have q2 := Int.emod_lt_of_pos a n1
    have q3 := Int.ediv_nonneg ha (Int.le_of_lt n1)
    refine ⟨(a % n).toNat, a / n, b, ⟨q3, hb, hb2⟩, by omega, ?_⟩
    have e : ((a % n).toNat : Int) = a % n := by omega
    unfold m__law_draw b__law_draw
    rw [mFun0_ap, e]
    simp [c, n1, hn, hn2, atI, ixN]
  · have e0 : a = 0 := by omega
    have q1 := Int.emod_nonneg (b * 48271) (b := 2147483647) (by omega)
    have q2 := Int.emod_lt_of_pos (b * 48271) (b := 2147483647) (by omega)
    generalize hB : b * 48271 % 2147483647 = B at q1 q2
    have q3 := Int.emod_nonneg (B * B % 2147483629 / 64) (b := (n : Int)) (by omega)
    have q4 := Int.emod_lt_of_pos (B * B % 2147483629 / 64) n1
    refine ⟨(B * B % 2147483629 / 64 % n).toNat, 0, B, ⟨by omega, by omega, by omega⟩, by omega, ?_⟩
    have e : ((B * B % 2147483629 / 64 % n).toNat : Int) = B * B % 2147483629 / 64 % n := by omega
    have q5 : B.natAbs < 18446744073709551616 := by omega
    unfold m__law_draw b__law_draw
    rw [mFun0_ap, e]
    simp [e0, n1, hn, atI, ixN, hB, q5]
/-- a draw from the source in slot i -/
theorem draw_at {ρ : Rho} {i : Nat} {a b : Int} {n : Nat} {me : ME} (hs : ρ[i]? = some (.o (srcO a b))) (h : Src a b) (hm : me ρ = some (.ok (.d (.int n)) ρ)) (hn : 0 < n) (hn2 : n < 1073741824) :
    ∃ (d : Nat) (a' b' : Int), Src a' b' ∧ d < n ∧ mCall m__law_draw (mACons true (mVar i) (mACons false me mANil)) ρ = some (.ok (.d (.int d)) (ρ.set i (.o (srcO a' b')))) := by
  obtain ⟨d, a', b', h', hd, e⟩ := e__law_draw h hn hn2
  refine ⟨d, a', b', h', hd, ?_⟩
  simp [hs, hm, e]
theorem draw_src {ρ : Rho} {i : Nat} {n : Nat} {me : ME} (hs : SrcAt ρ i) (hm : me ρ = some (.ok (.d (.int n)) ρ)) (hn : 0 < n) (hn2 : n < 1073741824) :
    ∃ (d : Nat) (a' b' : Int), Src a' b' ∧ d < n ∧ mCall m__law_draw (mACons true (mVar i) (mACons false me mANil)) ρ = some (.ok (.d (.int d)) (ρ.set i (.o (srcO a' b')))) := by
  obtain ⟨a, b, h, e⟩ := hs
  exact draw_at e h hm hn hn2
/-- .. in a def that has the source by reference -/
theorem draw_atR {ρ : Rho} {i : Nat} {a b : Int} {n : Nat} {me : ME} (hs : ρ[i]? = some (.r (srcO a b))) (h : Src a b) (hm : me ρ = some (.ok (.d (.int n)) ρ)) (hn : 0 < n) (hn2 : n < 1073741824) :
    ∃ (d : Nat) (a' b' : Int), Src a' b' ∧ d < n ∧ mCall m__law_draw (mACons true (mVar i) (mACons false me mANil)) ρ = some (.ok (.d (.int d)) (ρ.set i (.r (srcO a' b')))) := by
  obtain ⟨d, a', b', h', hd, e⟩ := e__law_draw h hn hn2
  refine ⟨d, a', b', h', hd, ?_⟩
  simp [hs, hm, e]
theorem e__law_choice {a b : Int} {xs : List PyData} (h : Src a b) (hn : 0 < xs.length) (hn2 : xs.length < 1000000) : ∃ (x : PyData) (a' b' : Int), x ∈ xs ∧ Src a' b' ∧ m__law_choice [.r (srcO a b), .d (.list xs)] = some (.ok (.d x) [.r (srcO a' b'), .no]) := by
  obtain ⟨d, a', b', h', hd, e⟩ := e__law_draw h hn (by omega)
  refine ⟨xs[d], a', b', List.getElem_mem hd, h', ?_⟩
  unfold m__law_choice b__law_choice
  rw [mFun0_ap]
  simp [e, atI_nat (l := xs) (k := d) rfl, hd]
theorem e__law_choiceT {a b : Int} {xs : List PyData} (h : Src a b) (hn : 0 < xs.length) (hn2 : xs.length < 1000000) : ∃ (x : PyData) (a' b' : Int), x ∈ xs ∧ Src a' b' ∧ m__law_choice [.r (srcO a b), .d (.tuple xs)] = some (.ok (.d x) [.r (srcO a' b'), .no]) := by
  obtain ⟨d, a', b', h', hd, e⟩ := e__law_draw h hn (by omega)
  refine ⟨xs[d], a', b', List.getElem_mem hd, h', ?_⟩
  unfold m__law_choice b__law_choice
  rw [mFun0_ap]
  simp [e, atI_nat (l := xs) (k := d) rfl, hd]
theorem e__law_choiceS {a b : Int} {xs : List Nat} (h : Src a b) (hn : 0 < xs.length) (hn2 : xs.length < 1000000) : ∃ (x : Nat) (a' b' : Int), x ∈ xs ∧ Src a' b' ∧ m__law_choice [.r (srcO a b), .d (tx xs)] = some (.ok (.d (tx [x])) [.r (srcO a' b'), .no]) := by
  obtain ⟨d, a', b', h', hd, e⟩ := e__law_draw h hn (by omega)
  refine ⟨xs[d], a', b', List.getElem_mem hd, h', ?_⟩
  unfold m__law_choice b__law_choice
  rw [mFun0_ap]
  have hn3 : xs.length ≤ 1000000 := by omega
  simp [e, atI_nat (l := xs) (k := d) rfl, hd, hn3]
theorem e__law_order {a b : Int} {ts : List Nat} {most : Nat} (h : Src a b) (ht : 0 < ts.length) (ht2 : ts.length ≤ 1000) (hm : most ≤ 1000) : ∃ (o : List Nat) (a' b' : Int), o.length ≤ most ∧ (∀ c ∈ o, c ∈ ts) ∧ Src a' b' ∧ m__law_order [.r (srcO a b), .d (tx ts), .d (.int most)] = some (.ok (.d (tx o)) [.r (srcO a' b'), .no, .no]) := by
  obtain ⟨t0, hts⟩ : ∃ t0, ts[0]? = some t0 := ⟨ts[0], List.getElem?_eq_getElem ht⟩
  have ht0 : t0 ∈ ts := List.mem_of_getElem? hts
  obtain ⟨d, a1, b1, h1, hd, e1⟩ := draw_atR (ρ := [.r (srcO a b), .d (tx ts), .d (.int most), .d (tx []), .d (tx [t0]), .no]) (i := 0) (me := mOp2 fAdd (mVar 2) (mC (.int 1))) (n := most + 1) rfl h (by simp) (by omega) (by omega)
  obtain ⟨ρ', e, o, t, s5, a', b', hρ, ho, hol, ht', hs', n5⟩ := loopF_go (g := gNm 5) (b := l__law_order_0) (fun k : Nat => PyData.int (k : Nat))
    (fun pre ρ => ∃ o t s5 a' b', ρ = [.r (srcO a' b'), .d (tx ts), .d (.int most), .d (tx o), .d (tx [t]), s5] ∧ o.length = pre.length ∧ (∀ c ∈ o, c ∈ ts) ∧ t ∈ ts ∧ Src a' b' ∧ nrS s5 = true)
    (List.range d) (ρ := [.r (srcO a1 b1), .d (tx ts), .d (.int most), .d (tx []), .d (tx [t0]), .no]) ⟨[], t0, .no, a1, b1, rfl, rfl, by simp, ht0, h1, rfl⟩
    (fun pre k post ρ hk ⟨o, t, s5, a', b', hρ, ho, hol, ht', hs', n5⟩ => by
      subst hρ
      have hlen : pre.length ≤ 1000 := by
        have := congrArg List.length hk
        rw [List.length_range, List.length_append, List.length_cons] at this
        omega
      obtain ⟨x, a2, b2, hx, h2, e2⟩ := e__law_choice (a := a') (b := b') (xs := (ts.map fun c => tx [c]) ++ [tx [t]]) hs' (by simp) (by simp; omega)
      obtain ⟨y, hy, rfl⟩ : ∃ y, y ∈ ts ∧ x = tx [y] := by
        rcases List.mem_append.mp hx with hx | hx
        · obtain ⟨y, hy, e⟩ := List.mem_map.mp hx; exact ⟨y, hy, e.symm⟩
        · exact ⟨t, ht', List.mem_singleton.mp hx⟩
      refine ⟨[.r (srcO a' b'), .d (tx ts), .d (.int most), .d (tx o), .d (tx [t]), .d (.int k)], [.r (srcO a2 b2), .d (tx ts), .d (.int most), .d (tx (o ++ [y])), .d (tx [y]), .d (.int k)], by simp [n5], ?_, o ++ [y], y, .d (.int k), a2, b2, rfl, by simp [ho], ?_, hy, h2, rfl⟩
      · unfold l__law_order_0
        have q1 : ts.length ≤ 1000000 := by omega
        have q2 : ts.length + 1 ≤ 1000000 := by omega
        have q3 : o.length + 1 ≤ 1000000 := by omega
        simp [fList_s q1, q2, e2, q3]
      · intro c hc
        rcases List.mem_append.mp hc with hc | hc
        · exact hol c hc
        · rw [List.mem_singleton.mp hc]; exact hy)
  subst hρ
  refine ⟨o, a', b', by rw [ho, List.length_range]; omega, hol, hs', ?_⟩
  unfold m__law_order b__law_order
  rw [mFun0_ap]
  have q1 : ts.length ≤ 1000000 := by omega
  simp [q1, atI_nat (l := ts) (k := 0) (i := 0) rfl, hts, -mCall_ap, e1, rngR_eq d rfl (by omega), e]
theorem pl_snoc (o : List Nat) (x t : Nat) : pl (o ++ [x]) t = if x = t then pl o t ++ [o.length + 1] else pl o t := by
  unfold pl
  rw [plF_app, Nat.zero_add]
  show _ ++ (if x = t then [o.length + 1] else []) = _
  split
  · rfl
  · rw [List.append_nil]
theorem e__law_places {o : List Nat} {t : Nat} (hl : o.length < 1000000) : m__law_places [.d (tx o), .d (tx [t])] = some (.ok (.o (.l ((pl o t).map fun p => .int (p : Nat)))) [.no, .no]) := by
  obtain ⟨ρ', e, s4, hρ, n4⟩ := loopF_go (g := gNm 4) (b := l__law_places_0) (fun x : Nat => tx [x])
    (fun pre ρ => ∃ s4, ρ = [.d (tx o), .d (tx [t]), .o (.l ((pl pre t).map fun p => .int (p : Nat))), .d (.int (pre.length : Nat)), s4] ∧ nrS s4 = true) o (ρ := [.d (tx o), .d (tx [t]), .o (.l []), .d (.int 0), .no]) ⟨_, rfl, rfl⟩ (fun pre x post ρ hp ⟨s4, hρ, n4⟩ => by
      subst hρ
      have hpl : pre.length < 1000000 := by
        have := congrArg List.length hp
        rw [List.length_append, List.length_cons] at this
        omega
      have hpl2 : (pl pre t).length < 1000000 := Nat.lt_of_le_of_lt (pl_len_le pre t) hpl
      refine ⟨[.d (tx o), .d (tx [t]), .o (.l ((pl pre t).map fun p => .int (p : Nat))), .d (.int (pre.length : Nat)), .d (tx [x])], [.d (tx o), .d (tx [t]), .o (.l ((pl (pre ++ [x]) t).map fun p => .int (p : Nat))), .d (.int ((pre ++ [x]).length : Nat)), .d (tx [x])], by simp [n4], ?_, _, rfl, rfl⟩
      unfold l__law_places_0
      rw [pl_snoc]
      by_cases h : x = t
      · simp [h, hpl2]
      · simp [h])
  subst hρ
  unfold m__law_places b__law_places
  rw [mFun0_ap]
  simp [e]
theorem e__law_score {o : List Nat} {t c : Nat} (hl : o.length < 1000000) : m__law_score [.d (tx o), .d (tx [t]), .d (.int c)] = some (.ok (.d (optI (score o t c))) [.no, .no, .no]) := by
  unfold m__law_score b__law_score
  rw [mFun0_ap]
  simp [e__law_places hl]
  unfold score scoreN
  by_cases h : c ≤ (pl o t).length
  · have h' : ((c : Int) ≤ (pl o t).length) := by omega
    simp [h, h', fSum_nat, -List.map_take]
  · have h' : ¬ ((c : Int) ≤ (pl o t).length) := by omega
    simp [h, h']
theorem inP_str (a : Nat) (L : List Nat) : inP (tx [a]) (L.map fun n => tx [n]) = decide (a ∈ L) := by
  unfold inP
  rw [List.any_map, Bool.eq_iff_iff, List.any_eq_true, decide_eq_true_eq]
  refine ⟨fun ⟨x, hx, e⟩ => ?_, fun h => ⟨a, h, by show (mkS [a] == mkS [a]) = true; exact beq_self_eq_true _⟩⟩
  have e' : (mkS [x] == mkS [a]) = true := e
  have e2 : mkS [x] = mkS [a] := by simpa using e'
  have e3 := mkS_inj e2
  simp at e3
  rw [← e3]; exact hx
theorem sc_strs (L : List Nat) : (L.map fun n => tx [n]).all scalar = true := by
  rw [List.all_map]; exact List.all_eq_true.mpr fun _ _ => rfl
theorem fIn_str {a : Nat} {L : List Nat} : fIn (tx [a]) (.list (L.map fun n => tx [n])) = some (.it (.bool (decide (a ∈ L)))) := by
  show (if scalar (tx [a]) = true ∧ (L.map fun n => tx [n]).all scalar = true then bv (inP (tx [a]) (L.map fun n => tx [n])) else none) = _
  rw [if_pos ⟨rfl, sc_strs L⟩, inP_str]
theorem e__law_rest {o s : List Nat} (hl : o.length ≤ 1000) (hs : s.length ≤ 1000) : m__law_rest [.d (tx o), .d (tx s)] = some (.ok (.d (tx (o.filter fun c => decide (c ∈ s)))) [.no, .no]) := by
  have hs2 : s.length ≤ 1000000 := by omega
  obtain ⟨ρ', e, s3, hρ, n3⟩ := loopF_go (g := gNm 3) (b := l__law_rest_0) (fun x : Nat => tx [x]) (fun pre ρ => ∃ s3, ρ = [.d (tx o), .d (tx s), .d (tx (pre.filter fun c => decide (c ∈ s))), s3] ∧ nrS s3 = true) o (ρ := [.d (tx o), .d (tx s), .d (tx []), .no]) ⟨_, rfl, rfl⟩ (fun pre x post ρ hp ⟨s3, hρ, n3⟩ => by
    subst hρ
    have hpl := congrArg List.length hp
    rw [List.length_append, List.length_cons] at hpl
    have hfl : (pre.filter fun c => decide (c ∈ s)).length + 1 ≤ 1000000 := by
      have := List.length_filter_le (fun c => decide (c ∈ s)) pre
      omega
    refine ⟨[.d (tx o), .d (tx s), .d (tx (pre.filter fun c => decide (c ∈ s))), .d (tx [x])], [.d (tx o), .d (tx s), .d (tx ((pre ++ [x]).filter fun c => decide (c ∈ s))), .d (tx [x])], by simp [n3], ?_, _, rfl, rfl⟩
    unfold l__law_rest_0
    rw [List.filter_append]
    by_cases q : x ∈ s
    · simp [fList_s hs2, fIn_str, q, hfl]
    · simp [fList_s hs2, fIn_str, q])
  subst hρ
  unfold m__law_rest b__law_rest
  rw [mFun0_ap]
  simp [e]
theorem e_is_text_of_no {x : PyData} {s : List Nat} {n : Int} (h : fIsi "str" x = some (.it (.bool false))) : m_is_text_of [.d x, .d (tx s), .d (.int n)] = some (.ok (.d (.bool false)) [.no, .no, .no]) := by
  unfold m_is_text_of b_is_text_of
  rw [mFun0_ap]
  simp [h]
theorem e_is_order_no {x : PyData} (h : fIsi "str" x = some (.it (.bool false))) : m_is_order [.d x] = some (.ok (.d (.bool false)) [.no]) := by
  unfold m_is_order b_is_order
  rw [mFun0_ap]
  simp [e_is_text_of_no h]
/-- a source of draws -/
structure Sr where
  a : Int
  b : Int
  h : Src a b
def srS (s : Sr) : Oc := srcO s.a s.b
theorem drw_e (s : Sr) {i : Int} (h1 : 0 < i) (h2 : i < 1073741824) : ∃ (d : Nat) (s' : Sr), (d : Int) < i ∧ m__law_draw [.r (srS s), .d (.int i)] = some (.ok (.d (.int d)) [.r (srS s'), .no]) := by
  obtain ⟨n, rfl⟩ : ∃ n : Nat, i = n := ⟨i.toNat, by omega⟩
  obtain ⟨d, a', b', h', hd, e⟩ := e__law_draw (n := n) s.h (by omega) (by omega)
  exact ⟨d, ⟨a', b', h'⟩, by omega, e⟩
theorem src_e (ns : List Int) (k : Nat) : ∃ s : Sr, m__law_source [.scr ns, .d (.int k)] = some (.ok (.o (srS s)) [.no, .no]) := by
  obtain ⟨a, b, h, e⟩ := e__law_source (ns := ns) (k := k)
  exact ⟨⟨a, b, h⟩, e⟩
theorem chc_e (s : Sr) {xs : List PyData} (h1 : 0 < xs.length) (h2 : xs.length < 1000000) : ∃ (x : PyData) (s' : Sr), x ∈ xs ∧ m__law_choice [.r (srS s), .d (.list xs)] = some (.ok (.d x) [.r (srS s'), .no]) := by
  obtain ⟨x, a', b', hx, h', e⟩ := e__law_choice (xs := xs) s.h h1 h2
  exact ⟨x, ⟨a', b', h'⟩, hx, e⟩
theorem chcT_e (s : Sr) {xs : List PyData} (h1 : 0 < xs.length) (h2 : xs.length < 1000000) : ∃ (x : PyData) (s' : Sr), x ∈ xs ∧ m__law_choice [.r (srS s), .d (.tuple xs)] = some (.ok (.d x) [.r (srS s'), .no]) := by
  obtain ⟨x, a', b', hx, h', e⟩ := e__law_choiceT (xs := xs) s.h h1 h2
  exact ⟨x, ⟨a', b', h'⟩, hx, e⟩
theorem ord_e (s : Sr) {ts : List Nat} {most : Int} (ht : 0 < ts.length) (ht2 : ts.length ≤ 1000) (hm : 0 ≤ most) (hm2 : most ≤ 1000) : ∃ (o : List Nat) (s' : Sr), (o.length : Int) ≤ most ∧ (∀ c ∈ o, c ∈ ts) ∧ m__law_order [.r (srS s), .d (tx ts), .d (.int most)] = some (.ok (.d (tx o)) [.r (srS s'), .no, .no]) := by
  obtain ⟨n, rfl⟩ : ∃ n : Nat, most = n := ⟨most.toNat, by omega⟩
  obtain ⟨o, a', b', h1, h2, h', e⟩ := e__law_order (most := n) s.h ht ht2 (by omega)
  exact ⟨o, ⟨a', b', h'⟩, by omega, h2, e⟩
def rest2 (o : List Nat) (a b : Nat) : List Nat := o.filter fun c => decide (c ∈ [a, b])
theorem rest2_len (o : List Nat) (a b : Nat) : (rest2 o a b).length ≤ o.length := List.length_filter_le ..
abbrev duD (o : List Nat) (a b c : Nat) : PyData := .tuple [optI (score (rest2 o a b) a c), optI (score (rest2 o a b) b c)]
theorem e_dual_of {o : List Nat} {a b c : Nat} (hl : o.length ≤ 1000) : m_dual_of [.d (tx o), .d (tx [a]), .d (tx [b]), .d (.int (c : Nat))] = some (.ok (.d (duD o a b c)) [.no, .no, .no, .no]) := by
  have h1 : o.length ≤ 1000000 := by omega
  have h2 := rest2_len o a b
  have e1 := e_kept (o := o) (s := [a, b]) h1
  have e1' : m_kept [.d (tx o), .d (tx [a, b])] = some (.ok (.d (tx (rest2 o a b))) [.no, .no]) := e1
  unfold m_dual_of b_dual_of
  rw [mFun0_ap]
  simp [e1', e_score_of (o := rest2 o a b) (by omega)]
theorem e_dual {o : List Nat} {s t c : Nat} (h : Ord o) (hs : s ∈ AB) (ht : t ∈ AB) (hst : s ≠ t) (h1 : 1 ≤ c) (h7 : c ≤ 7) (z1 : c ≤ (Pv.pl o s).length) (z2 : c ≤ (Pv.pl o t).length) : m_dual [.d (tx o), .d (tx [s]), .d (tx [t]), .d (.int (c : Nat))] = some (.ok (.d (duD o s t c)) [.no, .no, .no, .no]) := by
  unfold m_dual b_dual
  rw [mFun0_ap]
  simp [e_need_two h hs ht hst h1 h7 z1 z2, e_dual_of (o := o) (a := s) (b := t) (c := c) (by have := h.1; omega)]
theorem pl_filter_len (o : List Nat) (p : Nat → Bool) {t : Nat} (h : p t = true) : (Pv.pl (o.filter p) t).length = (Pv.pl o t).length := by
  unfold Pv.pl
  rw [plF_len, plF_len, List.count_filter h]
theorem rest2_pl (o : List Nat) (a b : Nat) : (Pv.pl (rest2 o a b) a).length = (Pv.pl o a).length ∧ (Pv.pl (rest2 o a b) b).length = (Pv.pl o b).length :=
  ⟨pl_filter_len o _ (by simp), pl_filter_len o _ (by simp)⟩
/-- are the two ahead of one another in the race of all and in that of the two -/
def turB (o : List Nat) (s t c : Nat) : Bool := decide ((sc0 o s c - sc0 o t c) * (sc0 (rest2 o s t) s c - sc0 (rest2 o s t) t c) < 0)
theorem sc0_abs {o : List Nat} {t c : Nat} (h : o.length ≤ 1000) (h7 : c ≤ 7) : 0 ≤ sc0 o t c ∧ sc0 o t c ≤ 7000 := by
  have h1 : ∀ (l : List Nat) (c n : Nat), (∀ x ∈ l, x ≤ n) → (l.take c).sum ≤ c * n := fun l => by
    induction l with
    | nil => intro c n _; simp
    | cons x l ih =>
      intro c n h
      cases c with
      | zero => simp
      | succ c =>
        rw [List.take_succ_cons, List.sum_cons, Nat.succ_mul]
        have := ih c n fun y hy => h y (List.mem_cons_of_mem _ hy)
        have := h x List.mem_cons_self
        omega
  have h2 := h1 (Pv.pl o t) c o.length fun x hx => (pl_range hx).2
  have h3 : c * o.length ≤ 7 * 1000 := Nat.mul_le_mul h7 h
  unfold sc0
  omega
theorem e_turned {o : List Nat} {s t c : Nat} (h : Ord o) (hs : s ∈ AB) (ht : t ∈ AB) (hst : s ≠ t) (h1 : 1 ≤ c) (h7 : c ≤ 7) (z1 : c ≤ (Pv.pl o s).length) (z2 : c ≤ (Pv.pl o t).length) : m_turned [.d (tx o), .d (tx [s]), .d (tx [t]), .d (.int (c : Nat))] = some (.ok (.d (.bool (turB o s t c))) [.no, .no, .no, .no]) := by
  have hr := rest2_pl o s t
  have e1 := score_sc (o := rest2 o s t) (t := s) (c := c) (by rw [hr.1]; exact z1)
  have e2 := score_sc (o := rest2 o s t) (t := t) (c := c) (by rw [hr.2]; exact z2)
  have h40 := h.1
  have b1 := sc0_abs (o := o) (t := s) (c := c) (by omega) h7
  have b2 := sc0_abs (o := o) (t := t) (c := c) (by omega) h7
  have q : (sc0 o s c - sc0 o t c).natAbs < 18446744073709551616 ∨ (sc0 (rest2 o s t) s c - sc0 (rest2 o s t) t c).natAbs < 18446744073709551616 := .inl (by omega)
  have ed := e_dual h hs ht hst h1 h7 z1 z2
  unfold duD at ed
  rw [e1, e2] at ed
  unfold m_turned b_turned
  rw [mFun0_ap]
  simp [ed, e_score_of h.le, score_sc z1, score_sc z2, q, turB]
theorem drwO_e (s : Sr) {i : Int} (h1 : 0 < i) (h2 : i < 1073741824) : ∃ d : Nat, (d : Int) < i ∧ m__law_draw [.o (srS s), .d (.int i)] = some (.ok (.d (.int d)) [.no, .no]) := by
  obtain ⟨n, rfl⟩ : ∃ n : Nat, i = n := ⟨i.toNat, by omega⟩
  obtain ⟨a, b, ha, hb, hb2⟩ := s
  have n1 : (0 : Int) < n := by omega
  have hn2 : n < 1073741824 := by omega
  have hn : 0 < n := by omega
  show ∃ d : Nat, (d : Int) < n ∧ m__law_draw [.o (srcO a b), .d (.int n)] = some (.ok (.d (.int d)) [.no, .no])
  by_cases c : 0 < a
  · have q1 := Int.emod_nonneg a (b := (n : Int)) (by omega)
    have q2 := Int.emod_lt_of_pos a n1
    refine ⟨(a % n).toNat, by omega, ?_⟩
    have e : ((a % n).toNat : Int) = a % n := by omega
    unfold m__law_draw b__law_draw
    rw [mFun0_ap, e]
    simp [c, n1, hn, hn2, atI, ixN]
  · have e0 : a = 0 := by omega
    have q1 := Int.emod_nonneg (b * 48271) (b := 2147483647) (by omega)
    have q2 := Int.emod_lt_of_pos (b * 48271) (b := 2147483647) (by omega)
    generalize hB : b * 48271 % 2147483647 = B at q1 q2
    have q3 := Int.emod_nonneg (B * B % 2147483629 / 64) (b := (n : Int)) (by omega)
    have q4 := Int.emod_lt_of_pos (B * B % 2147483629 / 64) n1
    refine ⟨(B * B % 2147483629 / 64 % n).toNat, by omega, ?_⟩
    have e : ((B * B % 2147483629 / 64 % n).toNat : Int) = B * B % 2147483629 / 64 % n := by omega
    have q5 : B.natAbs < 18446744073709551616 := by omega
    unfold m__law_draw b__law_draw
    rw [mFun0_ap, e]
    simp [e0, n1, hn, atI, ixN, hB, q5]
end Gx

namespace Gx
open PySem PySem.Spec PyProof.Rows L2 Pv
/-! what the lambdas come to -/
theorem mFun_ap {n k : Nat} {b : MS} {ρ : Rho} : mFun n k b ρ = finF n (b (ρ ++ List.replicate (k - n) .no)) := rfl
theorem x_need_order {o : List Nat} (h : Ord o) : mx_need_order [.d (tx o)] = some (.ok (.d .none) [.no]) := by
  unfold mx_need_order bx_need_order
  rw [mFun_ap]
  simp [e_is_order h.le, h.b]
theorem x_need_team {t : Nat} (h : t ∈ AB) : mx_need_team [.d (tx [t])] = some (.ok (.d .none) [.no]) := by
  unfold mx_need_team bx_need_team
  rw [mFun_ap]
  simp [e_is_team h]
theorem x_need_count {n : Int} (h : 1 ≤ n) (h2 : n ≤ 7) : mx_need_count [.d (.int n)] = some (.ok (.d .none) [.no]) := by
  unfold mx_need_count bx_need_count
  rw [mFun_ap]
  simp [e_is_between, betB, h, h2]
theorem x_need_number {v a b : Int} (h : a ≤ v) (h2 : v ≤ b) : mx_need_number [.d (.int v), .d (.int a), .d (.int b)] = some (.ok (.d .none) [.no, .no, .no]) := by
  unfold mx_need_number bx_need_number
  rw [mFun_ap]
  simp [e_is_between, betB, h, h2]
/-- what is no number between a and b -/
def OddN (x : PyData) (a b : Int) : Prop := m_is_between [.d x, .d (.int a), .d (.int b)] = some (.ok (.d (.bool false)) [.no, .no, .no])
theorem odd_none {a b : Int} : OddN .none a b := by
  unfold OddN m_is_between b_is_between
  rw [mFun0_ap]
  have i1 : fIsi "int" .none = some (.it (.bool false)) := rfl
  simp [i1]
theorem odd_true {a b : Int} : OddN (.bool true) a b := by
  unfold OddN m_is_between b_is_between
  rw [mFun0_ap]
  have i1 : fIsi "int" (.bool true) = some (.it (.bool true)) := rfl
  have i2 : fIsi "bool" (.bool true) = some (.it (.bool true)) := rfl
  simp [i1, i2]
theorem odd_tx {a b : Int} {l : List Nat} : OddN (tx l) a b := by
  unfold OddN m_is_between b_is_between
  rw [mFun0_ap]
  have i1 : fIsi "int" (tx l) = some (.it (.bool false)) := rfl
  simp [i1]
theorem odd_int {v a b : Int} (h : ¬ (a ≤ v ∧ v ≤ b)) : OddN (.int v) a b := by
  unfold OddN
  rw [e_is_between]
  have : betB v a b = false := by
    cases q : betB v a b with
    | false => rfl
    | true => exact absurd (betB_iff.mp q) h
  rw [this]
theorem x_need_two {o : List Nat} {s t c : Nat} (h : Ord o) (hs : s ∈ AB) (ht : t ∈ AB) (hst : s ≠ t) (h1 : 1 ≤ c) (h7 : c ≤ 7) (z : score o s c = none ∨ score o t c = none) : ∃ ρ, mx_need_two [.d (tx o), .d (tx [s]), .d (tx [t]), .d (.int c)] = some (.er ("NoScore", none) ρ) := by
  unfold mx_need_two bx_need_two
  rw [mFun_ap]
  by_cases q : score o s c = none
  · simp [x_need_order h, x_need_team hs, x_need_team ht, x_need_count (n := (c : Int)) (by omega) (by omega), hst, e_score_of h.le, q]
    exact ⟨_, rfl⟩
  · have z2 : score o t c = none := by rcases z with z | z; exact absurd z q; exact z
    simp [x_need_order h, x_need_team hs, x_need_team ht, x_need_count (n := (c : Int)) (by omega) (by omega), hst, e_score_of h.le, q, z2]
    exact ⟨_, rfl⟩
theorem x_turned {o : List Nat} {s t c : Nat} (h : Ord o) (hs : s ∈ AB) (ht : t ∈ AB) (hst : s ≠ t) (h1 : 1 ≤ c) (h7 : c ≤ 7) (z : score o s c = none ∨ score o t c = none) : ∃ ρ, mx_turned [.d (tx o), .d (tx [s]), .d (tx [t]), .d (.int c)] = some (.er ("NoScore", none) ρ) := by
  obtain ⟨r, e⟩ := x_need_two h hs ht hst h1 h7 z
  have e2 : ∃ r2, mx_dual [.d (tx o), .d (tx [s]), .d (tx [t]), .d (.int c)] = some (.er ("NoScore", none) r2) := by
    unfold mx_dual bx_dual
    rw [mFun_ap]
    simp [e]
    exact ⟨_, rfl⟩
  obtain ⟨r2, e2⟩ := e2
  unfold mx_turned bx_turned
  rw [mFun_ap]
  simp [e2]
  exact ⟨_, rfl⟩
theorem x_fewest {o : List Nat} {s t c : Nat} (h : Ord o) (hs : s ∈ AB) (ht : t ∈ AB) (hst : s ≠ t) (h1 : 1 ≤ c) (h7 : c ≤ 7) (z : score o s c = none ∨ score o t c = none) : ∃ ρ, mx_fewest_to_turn [.d (tx o), .d (tx [s]), .d (tx [t]), .d (.int c)] = some (.er ("NoScore", none) ρ) := by
  obtain ⟨r, e⟩ := x_need_two h hs ht hst h1 h7 z
  unfold mx_fewest_to_turn bx_fewest_to_turn
  rw [mFun_ap]
  simp [e]
  exact ⟨_, rfl⟩
theorem x_put_gap {o : List Nat} {x y z : PyData} (h : Ord o) (hx : OddN x 0 o.length) : ∃ ρ, mx_put_in [.d (tx o), .d x, .d y, .d z] = some (.er ("InvalidGap", none) ρ) := by
  have hx : m_is_between [.d x, .d (.int 0), .d (.int o.length)] = some (.ok (.d (.bool false)) [.no, .no, .no]) := hx
  unfold mx_put_in bx_put_in
  rw [mFun_ap]
  simp [x_need_order h, h.le, hx]
  exact ⟨_, rfl⟩
theorem x_put_many {o : List Nat} {t : Nat} {g n : Int} (h : Ord o) (ht : t ∈ AB) (h0 : 0 ≤ g) (h2 : g ≤ o.length) (hn : 0 ≤ n) (hn2 : n ≤ 40) (hm : 40 < (o.length : Int) + n) : ∃ ρ, mx_put_in [.d (tx o), .d (.int g), .d (tx [t]), .d (.int n)] = some (.er ("TooMany", some 40) ρ) := by
  unfold mx_put_in bx_put_in
  rw [mFun_ap]
  simp [x_need_order h, h.le, e_is_between, betB, h0, h2, x_need_team ht, x_need_number hn hn2, hm]
  exact ⟨_, rfl⟩
end Gx

namespace Gx
open PySem PySem.Spec PyProof.Rows L2 Pv
abbrev nD (n : Nat) : PyData := .int (n : Nat)
theorem rest2_comm (o : List Nat) (s t : Nat) : rest2 o t s = rest2 o s t := by
  unfold rest2
  refine List.filter_congr fun x _ => ?_
  rw [Bool.eq_iff_iff, decide_eq_true_eq, decide_eq_true_eq]
  simp only [List.mem_cons, List.not_mem_nil, or_false]
  exact Or.comm
/-- some runners taken away: the places come nearer -/
theorem filt_le (p : Nat → Bool) {t : Nat} (ht : p t = true) : ∀ (o : List Nat) (i j c : Nat), i ≤ j → ((plF i (o.filter p) t).take c).sum ≤ ((plF j o t).take c).sum
  | [], _, _, _, _ => Nat.le_refl _
  | y :: o, i, j, c, h => by
    by_cases e : y = t
    · subst e
      rw [List.filter_cons_of_pos ht]
      have e1 : ∀ k l, plF k (y :: l) y = (k + 1) :: plF (k + 1) l y := fun k l => if_pos rfl
      rw [e1, e1]
      cases c with
      | zero => exact Nat.le_refl _
      | succ c =>
        rw [List.take_succ_cons, List.take_succ_cons, List.sum_cons, List.sum_cons]
        have := filt_le p ht o (i + 1) (j + 1) c (by omega)
        omega
    · have e1 : ∀ k l, plF k (y :: l) t = plF (k + 1) l t := fun k l => if_neg e
      rw [e1 j]
      by_cases q : p y = true
      · rw [List.filter_cons_of_pos q, e1]
        exact filt_le p ht o (i + 1) (j + 1) c (by omega)
      · rw [List.filter_cons_of_neg q]
        exact filt_le p ht o i (j + 1) c (by omega)
/-- who comes first, with others and without -/
theorem first_two (p : Nat → Bool) {s t : Nat} (hs : p s = true) (ht : p t = true) (hst : s ≠ t) : ∀ (o : List Nat) (i j : Nat), s ∈ o → t ∈ o →
    (((plF i o s).take 1).sum < ((plF i o t).take 1).sum ∧ ((plF j (o.filter p) s).take 1).sum < ((plF j (o.filter p) t).take 1).sum) ∨
    (((plF i o t).take 1).sum < ((plF i o s).take 1).sum ∧ ((plF j (o.filter p) t).take 1).sum < ((plF j (o.filter p) s).take 1).sum)
  | [], _, _, h, _ => by cases h
  | y :: o, i, j, h1, h2 => by
    have far : ∀ (x : Nat) (l : List Nat) (k : Nat), x ∈ l → k < ((plF k l x).take 1).sum := fun x l k hx => by
      have hc : 0 < (plF k l x).length := by rw [plF_len]; exact List.count_pos_iff.mpr hx
      match e : plF k l x, hc with
      | q :: r, _ =>
        have hq : q ∈ plF k l x := by rw [e]; exact List.mem_cons_self
        have := (plF_range l k x q hq).1
        show k < ((q :: r).take 1).sum
        simp; omega
    have hit : ∀ k l x, ((plF k (x :: l) x).take 1).sum = k + 1 := fun k l x => by
      have : plF k (x :: l) x = (k + 1) :: plF (k + 1) l x := if_pos rfl
      rw [this]; simp
    have mis : ∀ k l x, y ≠ x → plF k (y :: l) x = plF (k + 1) l x := fun k l x e => if_neg e
    by_cases es : y = s
    · subst es
      have ht2 : t ∈ o := by rcases List.mem_cons.mp h2 with z | z; exact absurd z.symm hst; exact z
      rw [List.filter_cons_of_pos hs, hit, hit, mis _ _ _ hst, mis _ _ _ hst]
      exact .inl ⟨far t o _ ht2, far t _ _ (List.mem_filter.mpr ⟨ht2, ht⟩)⟩
    · by_cases et : y = t
      · subst et
        have hs2 : s ∈ o := by rcases List.mem_cons.mp h1 with z | z; exact absurd z hst; exact z
        rw [List.filter_cons_of_pos ht, hit, hit, mis _ _ _ es, mis _ _ _ es]
        exact .inr ⟨far s o _ hs2, far s _ _ (List.mem_filter.mpr ⟨hs2, hs⟩)⟩
      · have hs2 : s ∈ o := by rcases List.mem_cons.mp h1 with z | z; exact absurd z.symm es; exact z
        have ht2 : t ∈ o := by rcases List.mem_cons.mp h2 with z | z; exact absurd z.symm et; exact z
        rw [mis i _ _ es, mis i _ _ et]
        by_cases q : p y = true
        · rw [List.filter_cons_of_pos q, mis j _ _ es, mis j _ _ et]
          exact first_two p hs ht hst o (i + 1) (j + 1) hs2 ht2
        · rw [List.filter_cons_of_neg q]
          exact first_two p hs ht hst o (i + 1) j hs2 ht2
theorem tur_one {o : List Nat} {s t : Nat} (hst : s ≠ t) (z1 : 1 ≤ (Pv.pl o s).length) (z2 : 1 ≤ (Pv.pl o t).length) : turB o s t 1 = false := by
  have hs : s ∈ o := by
    have : 0 < o.count s := by rw [← plF_len o 0 s]; exact z1
    exact List.count_pos_iff.mp this
  have ht : t ∈ o := by
    have : 0 < o.count t := by rw [← plF_len o 0 t]; exact z2
    exact List.count_pos_iff.mp this
  have h := first_two (fun c => decide (c ∈ [s, t])) (s := s) (t := t) (by simp) (by simp) hst o 0 0 hs ht
  unfold turB sc0 rest2 Pv.pl
  refine decide_eq_false ?_
  rcases h with ⟨a, b⟩ | ⟨a, b⟩
  · exact Int.not_lt.mpr (Int.le_of_lt (Int.mul_pos_of_neg_of_neg (by omega) (by omega)))
  · exact Int.not_lt.mpr (Int.le_of_lt (Int.mul_pos (by omega) (by omega)))
theorem sign_mul (w a : Int) : decide (w * a < 0) = ((decide (w < 0) && decide (0 < a)) || (decide (0 < w) && decide (a < 0))) := by
  rcases Int.lt_trichotomy w 0 with hw | hw | hw
  · rcases Int.lt_trichotomy a 0 with ha | ha | ha
    · have : 0 < w * a := Int.mul_pos_of_neg_of_neg hw ha
      have h1 : ¬ w * a < 0 := by omega
      have h2 : ¬ 0 < a := by omega
      have h3 : ¬ 0 < w := by omega
      simp [h1, h2, h3]
    · subst ha; simp
    · have h1 : w * a < 0 := Int.mul_neg_of_neg_of_pos hw ha
      simp [h1, hw, ha]
  · subst hw; simp
  · rcases Int.lt_trichotomy a 0 with ha | ha | ha
    · have h1 : w * a < 0 := Int.mul_neg_of_pos_of_neg hw ha
      simp [h1, hw, ha]
    · subst ha; simp
    · have : 0 < w * a := Int.mul_pos hw ha
      have h1 : ¬ w * a < 0 := by omega
      have h2 : ¬ w < 0 := by omega
      have h3 : ¬ a < 0 := by omega
      simp [h1, h2, h3]
theorem fewer_le {o : List Nat} {s x c : Nat} (hx : x ≠ s) : sc0 (o.filter fun y => decide (y ≠ x)) s c ≤ sc0 o s c := by
  have := filt_le (fun y => decide (y ≠ x)) (t := s) (by simp [Ne.symm hx]) o 0 0 c (Nat.le_refl _)
  unfold sc0 Pv.pl
  omega
theorem ne_tup2 (a b : Int) : fNe (.tuple [.int a, .int b]) (.tuple [.int a, .int b]) = some (.it (.bool false)) := by
  have h : ShD 1 (.tuple [.int a, .int b]) := ShD.tuple fun z hz => by
    simp only [List.mem_cons, List.not_mem_nil, or_false] at hz
    rcases hz with rfl | rfl <;> exact ShD.int _
  show (if SeqAt.shaped (PyData.tuple [.int a, .int b]) = true ∧ SeqAt.shaped (PyData.tuple [.int a, .int b]) = true then bv (!PyData.eqv (.tuple [.int a, .int b]) (.tuple [.int a, .int b])) else none) = _
  rw [if_pos ⟨h.shaped (by decide), h.shaped (by decide)⟩, h.refl]
  rfl
end Gx

namespace Gx
open PySem PySem.Spec PyProof.Rows L2 Pv
theorem fnotin_tup {x s t : Nat} : fNotIn (tx [x]) (.tuple [tx [s], tx [t]]) = some (.it (.bool (!(decide (s = x) || decide (t = x))))) := by
  have e : ∀ a b : Nat, (mkS [a] == mkS [b]) = decide (a = b) := fun a b => by
    by_cases q : a = b
    · subst q; simp
    · rw [decide_eq_false q]
      refine beq_eq_false_iff_ne.mpr fun z => q ?_
      have := congrArg sL z
      simpa using this
  have h : fIn (tx [x]) (.tuple [tx [s], tx [t]]) = some (.it (.bool (decide (s = x) || decide (t = x)))) := by
    show (if scalar (tx [x]) = true ∧ [tx [s], tx [t]].all scalar = true then bv (inP (tx [x]) [tx [s], tx [t]]) else none) = _
    rw [if_pos ⟨rfl, rfl⟩]
    show bv ((mkS [s] == mkS [x]) || ((mkS [t] == mkS [x]) || false)) = _
    rw [e, e, Bool.or_false]
  unfold fNotIn
  rw [h]
theorem kp0 {o : List Nat} {s t c x : Nat} {s4 s5 s6 s7 s8 s9 s11 : Sl} (ho : Ord o) (hs : s ∈ AB) (h1 : 1 ≤ c) (h7 : c ≤ 7) (z1 : c ≤ (Pv.pl o s).length) (n11 : nrS s11 = true) :
    ∃ s11', nrS s11' = true ∧ l__law_pair_right_0 [.d (tx o), .d (tx [s]), .d (tx [t]), .d (nD c), s4, s5, s6, s7, s8, s9, .d (tx [x]), s11, .no] = some (.nx [.d (tx o), .d (tx [s]), .d (tx [t]), .d (nD c), s4, s5, s6, s7, s8, s9, .d (tx [x]), s11', .no]) := by
  unfold l__law_pair_right_0
  by_cases q : s = x ∨ t = x
  · refine ⟨s11, n11, ?_⟩
    have e : (!(decide (s = x) || decide (t = x))) = false := by
      rcases q with q | q <;> simp [q]
    simp [fnotin_tup, e]
  · have e : (!(decide (s = x) || decide (t = x))) = true := by
      have : ¬ s = x := fun z => q (.inl z)
      have : ¬ t = x := fun z => q (.inr z)
      simp [*]
    have hxs : x ≠ s := fun z => q (.inl z.symm)
    have hle := ho.le
    have hL := mLc_map (mi := mIter (mVar 0)) (g := gNm 12) (t := mTest (mOp2 fNe (mVar 12) (mVar 10))) (me := mVar 12) (vs := [12]) (ρ := [.d (tx o), .d (tx [s]), .d (tx [t]), .d (nD c), s4, s5, s6, s7, s8, s9, .d (tx [x]), s11, .no]) (ρ1 := [.d (tx o), .d (tx [s]), .d (tx [t]), .d (nD c), s4, s5, s6, s7, s8, s9, .d (tx [x]), s11, .no])
      (xs := o) (fun p => tx [p]) (fun p => [.d (tx o), .d (tx [s]), .d (tx [t]), .d (nD c), s4, s5, s6, s7, s8, s9, .d (tx [x]), s11, .d (tx [p])]) (fun p => decide (p ≠ x)) (fun p => tx [p]) (by simp) hle (by simp)
    have hfo : Ord (o.filter fun p => decide (p ≠ x)) := ⟨Nat.le_trans (List.length_filter_le ..) ho.1, fun y hy => ho.2 y (List.mem_filter.mp hy).1⟩
    have hz : c ≤ (Pv.pl (o.filter fun p => decide (p ≠ x)) s).length := by
      rw [pl_filter_len o _ (by simp [Ne.symm hxs])]; exact z1
    have e1 := e_score hfo hs h1 h7
    have e2 := e_score ho hs h1 h7
    rw [score_sc hz] at e1
    rw [score_sc z1] at e2
    have hfew := fewer_le (o := o) (s := s) (x := x) (c := c) hxs
    have hj := fJoin_letters (l := o.filter fun p => decide (p ≠ x)) hfo.le
    have hnot : ¬ sc0 o s c < sc0 (o.filter fun p => decide (p ≠ x)) s c := by omega
    generalize (o.filter fun p => decide (p ≠ x)) = O2 at hL e1 hnot hj
    refine ⟨.d (tx O2), rfl, ?_⟩
    simp [fnotin_tup, e, hL, hj, e1, e2, hnot, n11]
theorem kp_right {o : List Nat} {s t c : Nat} (ho : Ord o) (hs : s ∈ AB) (ht : t ∈ AB) (hst : s ≠ t) (h1 : 1 ≤ c) (h7 : c ≤ 7) (z1 : c ≤ (Pv.pl o s).length) (z2 : c ≤ (Pv.pl o t).length) :
    m__law_pair_right [.d (tx o), .d (tx [s]), .d (tx [t]), .d (nD c)] = some (.ok (.d (.bool true)) [.no, .no, .no, .no]) := by
  have hl : o.length ≤ 1000 := by have := ho.1; omega
  have er := e__law_rest (o := o) (s := [s, t]) hl (by simp)
  have er : m__law_rest [.d (tx o), .d (tx [s, t])] = some (.ok (.d (tx (rest2 o s t))) [.no, .no]) := er
  have hr := rest2_pl o s t
  have hrl := rest2_len o s t
  have q1 := e__law_score (o := rest2 o s t) (t := s) (c := c) (by omega)
  have q2 := e__law_score (o := rest2 o s t) (t := t) (c := c) (by omega)
  have q3 := e__law_score (o := o) (t := s) (c := c) (by omega)
  have q4 := e__law_score (o := o) (t := t) (c := c) (by omega)
  rw [score_sc (by rw [hr.1]; exact z1)] at q1
  rw [score_sc (by rw [hr.2]; exact z2)] at q2
  rw [score_sc z1] at q3
  rw [score_sc z2] at q4
  have d1 := e_dual ho hs ht hst h1 h7 z1 z2
  have d2 := e_dual ho ht hs (Ne.symm hst) h1 h7 z2 z1
  unfold duD at d1 d2
  rw [rest2_comm] at d2
  rw [score_sc (o := rest2 o s t) (t := s) (c := c) (by rw [hr.1]; exact z1), score_sc (o := rest2 o s t) (t := t) (c := c) (by rw [hr.2]; exact z2)] at d1 d2
  have et := e_turned ho hs ht hst h1 h7 z1 z2
  have hone : c = 1 → turB o s t c = false := fun e => by subst e; exact tur_one hst z1 z2
  have hsg : turB o s t c = ((decide (sc0 o s c - sc0 o t c < 0) && decide (0 < sc0 (rest2 o s t) s c - sc0 (rest2 o s t) t c)) || (decide (0 < sc0 o s c - sc0 o t c) && decide (sc0 (rest2 o s t) s c - sc0 (rest2 o s t) t c < 0))) := sign_mul _ _
  have loop := loopF_go (g := gNm 10) (b := l__law_pair_right_0) (fun x : Nat => tx [x])
  generalize rest2 o s t = R at *
  generalize sc0 R s c = A1 at *
  generalize sc0 R t c = A2 at *
  generalize sc0 o s c = W1 at *
  generalize sc0 o t c = W2 at *
  generalize turB o s t c = TB at *
  obtain ⟨w, hw⟩ : ∃ w, w = W1 - W2 := ⟨_, rfl⟩
  obtain ⟨a, ha⟩ : ∃ a, a = A1 - A2 := ⟨_, rfl⟩
  rw [← hw, ← ha] at hsg
  obtain ⟨ρ', f, u10, u11, hρ, k10, k11⟩ := loop (fun pre ρ => ∃ s10 s11, ρ = [.d (tx o), .d (tx [s]), .d (tx [t]), .d (nD c), .d (tx R), .d (.int A1), .d (.int A2), .d (.int w), .d (.int a), .d (.bool TB), s10, s11, .no] ∧ nrS s10 = true ∧ nrS s11 = true) [97, 98, 99, 100, 101]
    (ρ := [.d (tx o), .d (tx [s]), .d (tx [t]), .d (nD c), .d (tx R), .d (.int A1), .d (.int A2), .d (.int w), .d (.int a), .d (.bool TB), .no, .no, .no]) ⟨_, _, rfl, rfl, rfl⟩ (fun pre x post ρ hp ⟨s10, s11, hρ, n10, n11⟩ => by
      subst hρ
      obtain ⟨s11', k11, f⟩ := kp0 (t := t) (x := x) (s4 := .d (tx R)) (s5 := .d (.int A1)) (s6 := .d (.int A2)) (s7 := .d (.int w)) (s8 := .d (.int a)) (s9 := .d (.bool TB)) (s11 := s11) ho hs h1 h7 z1 n11
      exact ⟨_, _, by simp [n10], f, _, _, rfl, rfl, k11⟩)
  subst hρ
  have f2 := ne_tup2
  have hmem : ([s, t] : List Nat).length ≤ 1000000 := by simp
  unfold m__law_pair_right b__law_pair_right
  rw [mFun0_ap]
  rw [mSeq_nx (ρ1 := [.d (tx o), .d (tx [s]), .d (tx [t]), .d (nD c), .d (tx R), .no, .no, .no, .no, .no, .no, .no, .no]) (by simp [er])]
  rw [mSeq_nx (ρ1 := [.d (tx o), .d (tx [s]), .d (tx [t]), .d (nD c), .d (tx R), .d (.int A1), .d (.int A2), .no, .no, .no, .no, .no, .no]) (by simp [q1, q2])]
  rw [mSeq_nx (ρ1 := [.d (tx o), .d (tx [s]), .d (tx [t]), .d (nD c), .d (tx R), .d (.int A1), .d (.int A2), .d (.int w), .d (.int a), .no, .no, .no, .no]) (by rw [hw, ha]; simp [q3, q4])]
  rw [mSeq_nx (ρ1 := [.d (tx o), .d (tx [s]), .d (tx [t]), .d (nD c), .d (tx R), .d (.int A1), .d (.int A2), .d (.int w), .d (.int a), .no, .no, .no, .no]) (by simp [d1, d2, f2])]
  rw [mSeq_nx (ρ1 := [.d (tx o), .d (tx [s]), .d (tx [t]), .d (nD c), .d (tx R), .d (.int A1), .d (.int A2), .d (.int w), .d (.int a), .d (.bool TB), .no, .no, .no]) (by simp [et])]
  rw [mSeq_nx (ρ1 := [.d (tx o), .d (tx [s]), .d (tx [t]), .d (nD c), .d (tx R), .d (.int A1), .d (.int A2), .d (.int w), .d (.int a), .d (.bool TB), .no, .no, .no]) (by
    have i1 : fIsi "bool" (.bool TB) = some (.it (.bool true)) := rfl
    have ev : mOrV (mAndV (mOp2 fLt (mVar 7) (mC (.int 0))) (mOp2 fGt (mVar 8) (mC (.int 0)))) (mAndV (mOp2 fGt (mVar 7) (mC (.int 0))) (mOp2 fLt (mVar 8) (mC (.int 0)))) [.d (tx o), .d (tx [s]), .d (tx [t]), .d (nD c), .d (tx R), .d (.int A1), .d (.int A2), .d (.int w), .d (.int a), .d (.bool TB), .no, .no, .no] =
        some (.ok (.d (.bool TB)) [.d (tx o), .d (tx [s]), .d (tx [t]), .d (nD c), .d (tx R), .d (.int A1), .d (.int A2), .d (.int w), .d (.int a), .d (.bool TB), .no, .no, .no]) := by
      rw [hsg]
      by_cases h1 : w < 0
      · have h2 : ¬ 0 < w := by omega
        by_cases h3 : 0 < a
        · simp [h1, h3]
        · simp [h1, h2, h3]
      · by_cases h2 : 0 < w
        · simp [h1, h2]
        · simp [h1, h2]
    have nb : fNe (.bool TB) (.bool TB) = some (.it (.bool false)) := by cases TB <;> rfl
    generalize mOrV (mAndV (mOp2 fLt (mVar 7) (mC (.int 0))) (mOp2 fGt (mVar 8) (mC (.int 0)))) (mAndV (mOp2 fGt (mVar 7) (mC (.int 0))) (mOp2 fLt (mVar 8) (mC (.int 0)))) = M at ev ⊢
    simp [i1, ev, nb])]
  rw [mSeq_nx (ρ1 := [.d (tx o), .d (tx [s]), .d (tx [t]), .d (nD c), .d (tx R), .d (.int A1), .d (.int A2), .d (.int w), .d (.int a), .d (.bool TB), u10, u11, .no]) (by
    rw [mFor_ap, mIter_ap]
    simp only [mFrz_ap, mC_ap, sc_str, if_true, bd_ok, frz_d, Option.map_some, items_s, bS_ok]
    exact f)]
  by_cases hc : 1 < c
  · have hc' : (1 : Int) < (c : Int) := by omega
    simp [hc']
  · have hc1 : c = 1 := by omega
    have hT := hone hc1
    subst hT
    have hc' : ¬ (1 : Int) < (c : Int) := by omega
    simp [hc']
end Gx

namespace Gx
open PySem PySem.Spec PyProof.Rows L2 Pv
theorem g_score : g__law_name (some (("NoScore" : Str), none)) = some (tx [115, 99, 111, 114, 101]) := rfl
theorem g_gap : g__law_name (some (("InvalidGap" : Str), none)) = some (tx [103, 97, 112]) := rfl
theorem g_many : g__law_name (some (("TooMany" : Str), some 40)) = some (tx [109, 97, 110, 121, 52, 48]) := rfl
theorem ne_tx (l : List Nat) : fNe (tx l) (tx l) = some (.it (.bool false)) := by
  show bv (!decide (sL (mkS l) = sL (mkS l))) = _
  simp
theorem sc_cases {o : List Nat} {t c : Nat} : (score o t c = none ∧ ¬ c ≤ (Pv.pl o t).length) ∨ (score o t c = some (sc0 o t c) ∧ c ≤ (Pv.pl o t).length) := by
  by_cases z : c ≤ (Pv.pl o t).length
  · exact .inr ⟨score_sc z, z⟩
  · refine .inl ⟨?_, z⟩
    unfold score scoreN
    rw [if_neg z]; rfl
theorem kl0 {ns : List Int} {k : Nat} {S : Oc} {o : List Nat} {c a b : Nat} {s7 s8 s9 : Sl} (ho : Ord o) (ha : a ∈ AB) (hb : b ∈ AB) (h1 : 1 ≤ c) (h7 : c ≤ 7) :
    l_law_0 [.scr ns, .d (nD k), .o S, .d (tx o), .d (nD c), .d (tx [a]), .d (tx [b]), s7, s8, s9] = some (.nx [.scr ns, .d (nD k), .o S, .d (tx o), .d (nD c), .d (tx [a]), .d (tx [b]), s7, s8, s9]) := by
  have hl : o.length < 1000000 := by have := ho.1; omega
  have q3 := e__law_score (o := o) (t := a) (c := c) hl
  have q4 := e__law_score (o := o) (t := b) (c := c) hl
  unfold l_law_0
  by_cases hab : a = b
  · subst hab
    have f := ne_tx [a]
    simp [f]
  · have hne : fNe (tx [a]) (tx [b]) = some (.it (.bool true)) := by
      show bv (!decide (sL (mkS [a]) = sL (mkS [b]))) = _
      simp [hab]
    rcases sc_cases (o := o) (t := a) (c := c) with ⟨e1, z1⟩ | ⟨e1, z1⟩
    · obtain ⟨r1, x1⟩ := x_turned ho ha hb hab h1 h7 (.inl e1)
      obtain ⟨r2, x2⟩ := x_fewest ho ha hb hab h1 h7 (.inl e1)
      rw [e1] at q3
      simp [hne, q3, x1, x2, g_score, ne_tx]
    · rcases sc_cases (o := o) (t := b) (c := c) with ⟨e2, z2⟩ | ⟨e2, z2⟩
      · obtain ⟨r1, x1⟩ := x_turned ho ha hb hab h1 h7 (.inr e2)
        obtain ⟨r2, x2⟩ := x_fewest ho ha hb hab h1 h7 (.inr e2)
        rw [e1] at q3
        rw [e2] at q4
        simp [hne, q3, q4, x1, x2, g_score, ne_tx]
      · have hr := kp_right ho ha hb hab h1 h7 z1 z2
        rw [e1] at q3
        rw [e2] at q4
        simp [hne, q3, q4, hr]
abbrev abc5 : List Nat := [97, 98, 99, 100, 101]
theorem five_AB {x : Nat} (h : x ∈ abc5) : x ∈ AB := by
  simp at h ⊢
  omega
theorem kl1 {ns : List Int} {k : Nat} {S : Oc} {o : List Nat} {c a : Nat} {s6 s7 s8 s9 : Sl} (ho : Ord o) (ha : a ∈ AB) (h1 : 1 ≤ c) (h7 : c ≤ 7) (n6 : nrS s6 = true) :
    ∃ s6', nrS s6' = true ∧ l_law_1 [.scr ns, .d (nD k), .o S, .d (tx o), .d (nD c), .d (tx [a]), s6, s7, s8, s9] = some (.nx [.scr ns, .d (nD k), .o S, .d (tx o), .d (nD c), .d (tx [a]), s6', s7, s8, s9]) := by
  obtain ⟨ρ', f, u6, hρ, k6⟩ := loopF_go (g := gNm 6) (b := l_law_0) (fun x : Nat => tx [x]) (fun pre ρ => ∃ s6, ρ = [.scr ns, .d (nD k), .o S, .d (tx o), .d (nD c), .d (tx [a]), s6, s7, s8, s9] ∧ nrS s6 = true) abc5
    (ρ := [.scr ns, .d (nD k), .o S, .d (tx o), .d (nD c), .d (tx [a]), s6, s7, s8, s9]) ⟨s6, rfl, n6⟩ (fun pre x post ρ hp ⟨s6, hρ, n6⟩ => by
      subst hρ
      have hx : x ∈ AB := five_AB (by rw [hp]; simp)
      exact ⟨_, _, by simp [n6], kl0 ho ha hx h1 h7, _, rfl, rfl⟩)
  subst hρ
  refine ⟨u6, k6, ?_⟩
  unfold l_law_1
  rw [mFor_ap, mIter_ap]
  simp only [mFrz_ap, mC_ap, sc_str, if_true, bd_ok, frz_d, Option.map_some, items_s, bS_ok]
  exact f
theorem kl2 {ns : List Int} {k : Nat} {S : Oc} {o : List Nat} {s4 s5 s6 s7 s8 : Sl} {x : PyData} (ho : Ord o) (hx : OddN x 0 o.length) :
    l_law_2 [.scr ns, .d (nD k), .o S, .d (tx o), s4, s5, s6, s7, s8, .d x] = some (.nx [.scr ns, .d (nD k), .o S, .d (tx o), s4, s5, s6, s7, s8, .d x]) := by
  obtain ⟨r, e⟩ := x_put_gap (y := .none) (z := .none) ho hx
  unfold l_law_2
  simp [e, g_gap, ne_tx]
theorem kl3 {ns : List Int} {k : Nat} {t : List Sl} (u : Un 8 t) : ∃ t', Un 8 t' ∧ l_law_3 (.scr ns :: .d (nD k) :: t) = some (.nx (.scr ns :: .d (nD k) :: t')) := by
  obtain ⟨s2, s3, s4, s5, s6, s7, s8, s9, rfl, n2, n3, n4, n5, n6, n7, n8, n9⟩ := u.u8
  obtain ⟨sa, ea⟩ := src_e ns k
  obtain ⟨d, sb, hd, eb⟩ := drw_e sa (i := 4) (by decide) (by decide)
  obtain ⟨o, sc, hol, hom, eo⟩ := ord_e sb (ts := abc5.take (2 + d)) (most := 30) (by rw [List.length_take]; simp; omega) (by rw [List.length_take]; simp; omega) (by decide) (by decide)
  obtain ⟨d2, sd, hd2, ed⟩ := drw_e sc (i := 5) (by decide) (by decide)
  obtain ⟨c, hC⟩ : ∃ c, c = 1 + d2 := ⟨_, rfl⟩
  have h1 : 1 ≤ c := by omega
  have h7 : c ≤ 7 := by omega
  have hord : Ord o := ⟨by omega, fun x hx => five_AB (List.mem_of_mem_take (hom x hx))⟩
  have hle := hord.le
  obtain ⟨ρ1, f1, u5, u6, hρ1, k5, k6⟩ := loopF_go (g := gNm 5) (b := l_law_1) (fun t : Nat => tx [t]) (fun pre ρ => ∃ s5 s6, ρ = [.scr ns, .d (nD k), .o (srS sd), .d (tx o), .d (nD c), s5, s6, s7, s8, s9] ∧ nrS s5 = true ∧ nrS s6 = true) abc5
    (ρ := [.scr ns, .d (nD k), .o (srS sd), .d (tx o), .d (nD c), s5, s6, s7, s8, s9]) ⟨s5, s6, rfl, n5, n6⟩ (fun pre a post ρ hp ⟨s5, s6, hρ, n5, n6⟩ => by
      subst hρ
      have ha : a ∈ AB := five_AB (by rw [hp]; simp)
      obtain ⟨s6', k6, f⟩ := kl1 (ns := ns) (k := k) (S := srS sd) (s7 := s7) (s8 := s8) (s9 := s9) hord ha h1 h7 n6
      exact ⟨_, _, by simp [n5], f, _, _, rfl, rfl, k6⟩)
  subst hρ1
  obtain ⟨g, se, hg, eg⟩ := drw_e sd (i := (o.length : Int) + 1) (by omega) (by omega)
  obtain ⟨n, sf, hn, en⟩ := drw_e se (i := (41 : Int) - (o.length : Int)) (by omega) (by omega)
  have epi := e_put_in (o := o) (g := g) (x := 99) (n := n) hord (by omega) (by decide) (by omega)
  have epi : m_put_in [.d (tx o), .d (nD g), .d (tx [99]), .d (nD n)] = some (.ok (.d (tx (o.take g ++ List.replicate n 99 ++ o.drop g))) [.no, .no, .no, .no]) := epi
  have hmul : fMul (tx [99]) (.int (n : Nat)) = some (.it (tx (List.replicate n 99))) := by
    rw [fMul_s (a := [99]) n rfl (by omega) (by rw [List.length_singleton]; omega), rep_one]
  have l1 : min g o.length + n ≤ 1000000 := by omega
  have l2 : min g o.length + n + (o.length - g) ≤ 1000000 := by omega
  obtain ⟨ρ2, f2, u9, hρ2, k9⟩ := loopF_go (g := gNm 9) (b := l_law_2) (fun x : PyData => x) (fun pre ρ => ∃ s9, ρ = [.scr ns, .d (nD k), .o (srS sf), .d (tx o), .d (nD c), u5, u6, .d (nD g), .d (nD n), s9] ∧ nrS s9 = true) [.none, .int (-1), .int ((o.length : Int) + 1), .bool true, tx [48]]
    (ρ := [.scr ns, .d (nD k), .o (srS sf), .d (tx o), .d (nD c), u5, u6, .d (nD g), .d (nD n), s9]) ⟨s9, rfl, n9⟩ (fun pre x post ρ hp ⟨s9, hρ, n9⟩ => by
      subst hρ
      have hx : OddN x 0 o.length := by
        have : x ∈ [PyData.none, .int (-1), .int ((o.length : Int) + 1), .bool true, tx [48]] := by rw [hp]; simp
        simp only [List.mem_cons, List.not_mem_nil, or_false] at this
        rcases this with rfl | rfl | rfl | rfl | rfl
        · exact odd_none
        · exact odd_int (by omega)
        · exact odd_int (by omega)
        · exact odd_true
        · exact odd_tx
      exact ⟨_, _, by simp [n9], kl2 hord hx, _, rfl, rfl⟩)
  subst hρ2
  have hoa : Pv.Ord (o ++ [97]) := ⟨by rw [List.length_append, List.length_singleton]; omega, fun x hx => by
    rcases List.mem_append.mp hx with h | h
    · exact hord.2 x h
    · rw [List.mem_singleton.mp h]; decide⟩
  obtain ⟨rx, ex⟩ := x_put_many (o := o ++ [97]) (t := 97) (g := 0) (n := 40) hoa (by decide) (by decide) (by omega) (by decide) (by decide) (by rw [List.length_append, List.length_singleton]; omega)
  refine ⟨[.o (srS sf), .d (tx o), .d (nD c), u5, u6, .d (nD g), .d (nD n), u9], Un.m8 ⟨rfl, rfl, rfl, k5, k6, rfl, rfl, k9⟩, ?_⟩
  have c1 : (2 : Int) + (d : Int) = ((2 + d : Nat) : Int) := by omega
  have l4 : abc5.length ≤ 1000000 := by simp
  unfold l_law_3
  rw [mSeq_nx (ρ1 := [.scr ns, .d (nD k), .o (srS sa), s3, s4, s5, s6, s7, s8, s9]) (by simp [ea, n2])]
  have hsl : ∀ AL : List Nat, AL.length ≤ 1000000 → fSl none (some ((2 : Int) + (d : Int))) (tx AL) = some (.it (tx (AL.take (2 + d)))) := fun AL l4 => by rw [c1, fSl_toS, if_pos l4]
  rw [mSeq_nx (ρ1 := [.scr ns, .d (nD k), .o (srS sd), .d (tx o), .d (nD c), s5, s6, s7, s8, s9]) (by
    have hsl := hsl abc5 l4
    change mAsgT _ (mTup (mCons (mCall m__law_order (mACons true (mVar 2) (mACons false (mSlice (mC (tx abc5)) mNoPart _) _))) _)) _ = _
    generalize abc5 = AL at eo hsl ⊢
    rw [hC]
    simp [eb, hsl, eo, ed, n3, n4])]
  rw [mSeq_nx (ρ1 := [.scr ns, .d (nD k), .o (srS sd), .d (tx o), .d (nD c), u5, u6, s7, s8, s9]) (by
    rw [mFor_ap, mIter_ap]
    simp only [mFrz_ap, mC_ap, sc_str, if_true, bd_ok, frz_d, Option.map_some, items_s, bS_ok]
    exact f1)]
  rw [mSeq_nx (ρ1 := [.scr ns, .d (nD k), .o (srS sf), .d (tx o), .d (nD c), u5, u6, .d (nD g), .d (nD n), s9]) (by
    simp [hle, eg, en, n7, n8])]
  rw [mSeq_nx (ρ1 := [.scr ns, .d (nD k), .o (srS sf), .d (tx o), .d (nD c), u5, u6, .d (nD g), .d (nD n), s9]) (by
    have f := ne_tx (o.take g ++ List.replicate n 99 ++ o.drop g)
    have la : (o.take g).length = min g o.length := List.length_take ..
    have lb : (o.drop g).length = o.length - g := List.length_drop ..
    have lc : (List.replicate n 99).length = n := List.length_replicate ..
    have ha1 : fSl none (some (g : Int)) (tx o) = some (.it (tx (o.take g))) := by rw [fSl_toS, if_pos hle]
    have ha2 : fSl (some (g : Int)) none (tx o) = some (.it (tx (o.drop g))) := by rw [fSl_fromS, if_pos hle]
    generalize o.take g = P1 at *
    generalize o.drop g = P2 at *
    generalize List.replicate n 99 = P3 at *
    have l1' : P1.length + P3.length ≤ 1000000 := by omega
    have l2' : P1.length + P3.length + P2.length ≤ 1000000 := by omega
    have l3' : P1.length + (P3.length + P2.length) ≤ 1000000 := by omega
    rw [List.append_assoc] at f epi
    simp [epi, ha1, ha2, hmul, l1', l2', l3', f])]
  rw [mSeq_nx (ρ1 := [.scr ns, .d (nD k), .o (srS sf), .d (tx o), .d (nD c), u5, u6, .d (nD g), .d (nD n), u9]) (by
    rw [mFor_ap, mIter_ap]
    have e : mFrz (mLst (mCons (mC .none) (mCons (mOp1 fNeg (mC (.int 1))) (mCons (mOp2 fAdd (mOp1 fLen (mVar 3)) (mC (.int 1))) (mCons (mC (.bool true)) (mCons (mC (tx [48])) mNil)))))) [.scr ns, .d (nD k), .o (srS sf), .d (tx o), .d (nD c), u5, u6, .d (nD g), .d (nD n), s9] =
        some (.ok (.list [.none, .int (-1), .int ((o.length : Int) + 1), .bool true, tx [48]]) [.scr ns, .d (nD k), .o (srS sf), .d (tx o), .d (nD c), u5, u6, .d (nD g), .d (nD n), s9]) := by simp [hle]
    rw [e, bd_ok]
    exact f2)]
  have hle2 : o.length + 1 ≤ 1000000 := by omega
  simp [hle2, ex, g_many, ne_tx]
theorem law_true (ns : List Int) (hns : ns.length ≤ 63) : ∃ ρ, m_law [.scr ns] = some (.ok (.d (.bool true)) ρ) := by
  obtain ⟨m, hm, hm2⟩ : ∃ m : Nat, ((1 : Int) + (if (12 : Int) < ns.length then 12 else (ns.length : Int))) = m ∧ m ≤ 100 := ⟨((1 : Int) + (if (12 : Int) < ns.length then 12 else (ns.length : Int))).toNat, by split <;> omega, by split <;> omega⟩
  obtain ⟨ρ', f, s1, t, hρ, n1, u⟩ := loopF_go (g := gNm 1) (b := l_law_3) (fun k : Nat => .int (k : Nat)) (fun pre ρ => ∃ s1 t, ρ = .scr ns :: s1 :: t ∧ nrS s1 = true ∧ Un 8 t) (List.range m) (ρ := .scr ns :: .no :: List.replicate 8 .no) ⟨_, _, rfl, rfl, Un.rep 8⟩ (fun pre k post ρ hp ⟨s1, t, hρ, n1, u⟩ => by
    subst hρ
    obtain ⟨t', u', f⟩ := kl3 (ns := ns) (k := k) u
    exact ⟨_, _, by simp [n1], f, _, t', rfl, rfl, u'⟩)
  subst hρ
  have o1 : Ord [97, 97, 98, 98, 98, 99, 99, 99, 99, 97] := ⟨by decide, by decide⟩
  have o2 : Ord [97, 98, 98, 97, 97, 99, 98, 99, 99] := ⟨by decide, by decide⟩
  have o3 : Ord [97, 98, 97, 98] := ⟨by decide, by decide⟩
  have e1 : m_turned [.d (tx [97, 97, 98, 98, 98, 99, 99, 99, 99, 97]), .d (tx [97]), .d (tx [98]), .d (.int 3)] = _ := e_turned (c := 3) o1 (s := 97) (t := 98) (by decide) (by decide) (by decide) (by decide) (by decide) (by decide) (by decide)
  have e2 : m_dual [.d (tx [97, 98, 98, 97, 97, 99, 98, 99, 99]), .d (tx [98]), .d (tx [99]), .d (.int 3)] = _ := e_dual (c := 3) o2 (s := 98) (t := 99) (by decide) (by decide) (by decide) (by decide) (by decide) (by decide) (by decide)
  have e3 : m_put_in [.d (tx [97, 98, 97, 98]), .d (.int 2), .d (tx [99]), .d (.int 2)] = _ := e_put_in (g := 2) (x := 99) (n := 2) o3 (by decide) (by decide) (by decide)
  have e4 : m_turned [.d (tx [97, 98, 98, 97, 97, 99, 98, 99, 99]), .d (tx [97]), .d (tx [98]), .d (.int 3)] = _ := e_turned (c := 3) o2 (s := 97) (t := 98) (by decide) (by decide) (by decide) (by decide) (by decide) (by decide) (by decide)
  have g1 : turB [97, 97, 98, 98, 98, 99, 99, 99, 99, 97] 97 98 3 = true := by decide +kernel
  have g4 : turB [97, 98, 98, 97, 97, 99, 98, 99, 99] 97 98 3 = false := by decide +kernel
  have g2 : duD [97, 98, 98, 97, 97, 99, 98, 99, 99] 98 99 3 = .tuple [.int 7, .int 14] := by
    have a1 : score (rest2 [97, 98, 98, 97, 97, 99, 98, 99, 99] 98 99) 98 3 = some 7 := by decide +kernel
    have a2 : score (rest2 [97, 98, 98, 97, 97, 99, 98, 99, 99] 98 99) 99 3 = some 14 := by decide +kernel
    unfold duD
    rw [a1, a2]
    rfl
  have g3 : putO [97, 98, 97, 98] 2 99 2 = [97, 98, 99, 99, 97, 98] := by decide
  rw [g1] at e1
  rw [g2] at e2
  rw [g3] at e3
  rw [g4] at e4
  have f2 := ne_tup2 7 14
  have f3 : fEq (tx [97, 98, 99, 99, 97, 98]) (tx [97, 98, 99, 99, 97, 98]) = some (.it (.bool true)) := rfl
  have i1 : fIsNot (.bool true) (.bool true) = some (.it (.bool false)) := rfl
  have i2 : fIs (.bool false) (.bool false) = some (.it (.bool true)) := rfl
  refine ⟨[.no], ?_⟩
  unfold m_law b_law
  rw [mFun0_ap]
  rw [mSeq_nx (ρ1 := .scr ns :: s1 :: t) (by
    rw [mFor_ap, mRange1_ap]
    have e : mCons (mOp2 fAdd (mC (.int 1)) (mOpN fMin2 (mCons (mLenScr 0) (mCons (mC (.int 12)) mNil)))) mNil ([.scr ns] ++ List.replicate 9 .no) = some (.ok [.int (m : Nat)] ([.scr ns] ++ List.replicate 9 .no)) := by
      rw [← hm]; simp
    rw [e, bd_ok]
    show bS (rngR (m : Nat) _) _ = _
    rw [rngR_eq m rfl (by omega), bS_ok]
    exact f)]
  generalize m_turned = CA at e1 e4 ⊢
  generalize m_dual = CB at e2 ⊢
  generalize m_put_in = CC at e3 ⊢
  simp [e1, e2, e3, e4, f2, f3, i1, i2]
end Gx

namespace Gx
open PySem PySem.Spec PyProof.Rows L2 Pv
theorem all_mk {l : PySem.W.OpenLaw} {w : World} {K : PySem.W.Frag} {h : Heap} {mg : Str → Option Value} {fa f0 f1 f2 f3 f4 f5 f6 f7 f8 f9 f10 f11 f12 f13 f14 f15 f16 f17 f18 f19 f20 f21 f22 f23 f24 f25 f26 f27 f28 tc_law tP_law e_InvalidOrder e_InvalidTeam e_InvalidCount e_InvalidNumber e_InvalidGap e_NoScore e_TooMany fi_TooMany eu_TooMany : Addr} {q : Program} (X : K.In h) (G : h.Ns mainGlobals mg) (hfa : mg "law" = some (.ref fa))
    {od0 an0 od1 an1 od2 an2 od3 an3 od4 an4 od5 an5 od6 an6 od7 an7 od8 an8 od9 an9 od10 an10 od11 an11 od12 an12 od13 an13 od14 an14 od15 an15 od16 an16 od17 an17 od18 an18 od19 an19 od20 an20 od21 an21 od22 an22 od23 an23 od24 an24 od25 an25 od26 an26 od27 an27 od28 an28 xo_law odi_TooMany ani_TooMany : Option Addr} {sl0 sl1 sl2 sl3 sl4 sl5 sl6 sl7 sl8 sl9 sl10 sl11 sl12 sl13 sl14 sl15 sl16 sl17 sl18 sl19 sl20 sl21 sl22 sl23 sl24 sl25 sl26 sl27 sl28 xs_law sli_TooMany : Array (Option Value)} {oc0 kV0 dc0 pm0 cd0 ct0 oc1 kV1 dc1 pm1 cd1 ct1 oc2 kV2 dc2 pm2 cd2 ct2 oc3 kV3 dc3 pm3 cd3 ct3 oc4 kV4 dc4 pm4 cd4 ct4 oc5 kV5 dc5 pm5 cd5 ct5 oc6 kV6 dc6 pm6 cd6 ct6 oc7 kV7 dc7 pm7 cd7 ct7 oc8 kV8 dc8 pm8 cd8 ct8 oc9 kV9 dc9 pm9 cd9 ct9 oc10 kV10 dc10 pm10 cd10 ct10 oc11 kV11 dc11 pm11 cd11 ct11 oc12 kV12 dc12 pm12 cd12 ct12 oc13 kV13 dc13 pm13 cd13 ct13 oc14 kV14 dc14 pm14 cd14 ct14 oc15 kV15 dc15 pm15 cd15 ct15 oc16 kV16 dc16 pm16 cd16 ct16 oc17 kV17 dc17 pm17 cd17 ct17 oc18 kV18 dc18 pm18 cd18 ct18 oc19 kV19 dc19 pm19 cd19 ct19 oc20 kV20 dc20 pm20 cd20 ct20 oc21 kV21 dc21 pm21 cd21 ct21 oc22 kV22 dc22 pm22 cd22 ct22 oc23 kV23 dc23 pm23 cd23 ct23 oc24 kV24 dc24 pm24 cd24 ct24 oc25 kV25 dc25 pm25 cd25 ct25 oc26 kV26 dc26 pm26 cd26 ct26 oc27 kV27 dc27 pm27 cd27 ct27 oc28 kV28 dc28 pm28 cd28 ct28 xe_law oci_TooMany kVi_TooMany dci_TooMany pmi_TooMany cdi_TooMany cti_TooMany : Value} {t_MOST_COUNT t_MOST_RUNNERS t_TEAMS : Tok} {xv_law : Array Value} {onm_TooMany oq_TooMany : Str} {oN_TooMany : Addr} {obs_TooMany obm_TooMany osub_TooMany : List Value} {osn_TooMany : List Str} {oab_TooMany : Bool} {ocol_TooMany : Option Bool} {odd_TooMany : Option Addr} {ok0_TooMany ok1_TooMany ok2_TooMany ok3_TooMany ok5_TooMany : Option Value}
    (hm : ∀ ns : List Int, ns.length ≤ 63 → ∃ ρ, m_law [.scr ns] = some (.ok (.d (.bool true)) ρ))
    (rc_law : ((recsOf q).any fun e => e.name == "law") = true)
    (a0 : PySem.W.nsIn K mainGlobals "is_between" = some (some (.ref f0)))
    (l0 : K.lookup f0 = some ⟨oc0, od0, .func (PySem.W.fnOf "is_between" "is_between" (defArgs s_is_between) (defBody s_is_between) (defScope s_is_between) .none kV0 dc0 pm0 an0 cd0 ct0), sl0⟩)
    (c0 : PySem.W.codeIn K cd0 "is_between" = true)
    (k0 : PySem.W.keepIn K (.ref f0) = true)
    (a1 : PySem.W.nsIn K mainGlobals "is_text_of" = some (some (.ref f1)))
    (l1 : K.lookup f1 = some ⟨oc1, od1, .func (PySem.W.fnOf "is_text_of" "is_text_of" (defArgs s_is_text_of) (defBody s_is_text_of) (defScope s_is_text_of) .none kV1 dc1 pm1 an1 cd1 ct1), sl1⟩)
    (c1 : PySem.W.codeIn K cd1 "is_text_of" = true)
    (k1 : PySem.W.keepIn K (.ref f1) = true)
    (a2 : PySem.W.nsIn K mainGlobals "is_order" = some (some (.ref f2)))
    (l2 : K.lookup f2 = some ⟨oc2, od2, .func (PySem.W.fnOf "is_order" "is_order" (defArgs s_is_order) (defBody s_is_order) (defScope s_is_order) .none kV2 dc2 pm2 an2 cd2 ct2), sl2⟩)
    (c2 : PySem.W.codeIn K cd2 "is_order" = true)
    (k2 : PySem.W.keepIn K (.ref f2) = true)
    (a3 : PySem.W.nsIn K mainGlobals "is_team" = some (some (.ref f3)))
    (l3 : K.lookup f3 = some ⟨oc3, od3, .func (PySem.W.fnOf "is_team" "is_team" (defArgs s_is_team) (defBody s_is_team) (defScope s_is_team) .none kV3 dc3 pm3 an3 cd3 ct3), sl3⟩)
    (c3 : PySem.W.codeIn K cd3 "is_team" = true)
    (k3 : PySem.W.keepIn K (.ref f3) = true)
    (a4 : PySem.W.nsIn K mainGlobals "need_order" = some (some (.ref f4)))
    (l4 : K.lookup f4 = some ⟨oc4, od4, .func (PySem.W.fnOf "need_order" "need_order" (defArgs s_need_order) (defBody s_need_order) (defScope s_need_order) .none kV4 dc4 pm4 an4 cd4 ct4), sl4⟩)
    (c4 : PySem.W.codeIn K cd4 "need_order" = true)
    (k4 : PySem.W.keepIn K (.ref f4) = true)
    (a5 : PySem.W.nsIn K mainGlobals "need_team" = some (some (.ref f5)))
    (l5 : K.lookup f5 = some ⟨oc5, od5, .func (PySem.W.fnOf "need_team" "need_team" (defArgs s_need_team) (defBody s_need_team) (defScope s_need_team) .none kV5 dc5 pm5 an5 cd5 ct5), sl5⟩)
    (c5 : PySem.W.codeIn K cd5 "need_team" = true)
    (k5 : PySem.W.keepIn K (.ref f5) = true)
    (a6 : PySem.W.nsIn K mainGlobals "need_count" = some (some (.ref f6)))
    (l6 : K.lookup f6 = some ⟨oc6, od6, .func (PySem.W.fnOf "need_count" "need_count" (defArgs s_need_count) (defBody s_need_count) (defScope s_need_count) .none kV6 dc6 pm6 an6 cd6 ct6), sl6⟩)
    (c6 : PySem.W.codeIn K cd6 "need_count" = true)
    (k6 : PySem.W.keepIn K (.ref f6) = true)
    (a7 : PySem.W.nsIn K mainGlobals "places_of" = some (some (.ref f7)))
    (l7 : K.lookup f7 = some ⟨oc7, od7, .func (PySem.W.fnOf "places_of" "places_of" (defArgs s_places_of) (defBody s_places_of) (defScope s_places_of) .none kV7 dc7 pm7 an7 cd7 ct7), sl7⟩)
    (c7 : PySem.W.codeIn K cd7 "places_of" = true)
    (k7 : PySem.W.keepIn K (.ref f7) = true)
    (a8 : PySem.W.nsIn K mainGlobals "score_of" = some (some (.ref f8)))
    (l8 : K.lookup f8 = some ⟨oc8, od8, .func (PySem.W.fnOf "score_of" "score_of" (defArgs s_score_of) (defBody s_score_of) (defScope s_score_of) .none kV8 dc8 pm8 an8 cd8 ct8), sl8⟩)
    (c8 : PySem.W.codeIn K cd8 "score_of" = true)
    (k8 : PySem.W.keepIn K (.ref f8) = true)
    (a9 : PySem.W.nsIn K mainGlobals "kept" = some (some (.ref f9)))
    (l9 : K.lookup f9 = some ⟨oc9, od9, .func (PySem.W.fnOf "kept" "kept" (defArgs s_kept) (defBody s_kept) (defScope s_kept) .none kV9 dc9 pm9 an9 cd9 ct9), sl9⟩)
    (c9 : PySem.W.codeIn K cd9 "kept" = true)
    (k9 : PySem.W.keepIn K (.ref f9) = true)
    (a10 : PySem.W.nsIn K mainGlobals "score" = some (some (.ref f10)))
    (l10 : K.lookup f10 = some ⟨oc10, od10, .func (PySem.W.fnOf "score" "score" (defArgs s_score) (defBody s_score) (defScope s_score) .none kV10 dc10 pm10 an10 cd10 ct10), sl10⟩)
    (c10 : PySem.W.codeIn K cd10 "score" = true)
    (k10 : PySem.W.keepIn K (.ref f10) = true)
    (a11 : PySem.W.nsIn K mainGlobals "need_number" = some (some (.ref f11)))
    (l11 : K.lookup f11 = some ⟨oc11, od11, .func (PySem.W.fnOf "need_number" "need_number" (defArgs s_need_number) (defBody s_need_number) (defScope s_need_number) .none kV11 dc11 pm11 an11 cd11 ct11), sl11⟩)
    (c11 : PySem.W.codeIn K cd11 "need_number" = true)
    (k11 : PySem.W.keepIn K (.ref f11) = true)
    (a12 : PySem.W.nsIn K mainGlobals "need_two" = some (some (.ref f12)))
    (l12 : K.lookup f12 = some ⟨oc12, od12, .func (PySem.W.fnOf "need_two" "need_two" (defArgs s_need_two) (defBody s_need_two) (defScope s_need_two) .none kV12 dc12 pm12 an12 cd12 ct12), sl12⟩)
    (c12 : PySem.W.codeIn K cd12 "need_two" = true)
    (k12 : PySem.W.keepIn K (.ref f12) = true)
    (a13 : PySem.W.nsIn K mainGlobals "dual_of" = some (some (.ref f13)))
    (l13 : K.lookup f13 = some ⟨oc13, od13, .func (PySem.W.fnOf "dual_of" "dual_of" (defArgs s_dual_of) (defBody s_dual_of) (defScope s_dual_of) .none kV13 dc13 pm13 an13 cd13 ct13), sl13⟩)
    (c13 : PySem.W.codeIn K cd13 "dual_of" = true)
    (k13 : PySem.W.keepIn K (.ref f13) = true)
    (a14 : PySem.W.nsIn K mainGlobals "dual" = some (some (.ref f14)))
    (l14 : K.lookup f14 = some ⟨oc14, od14, .func (PySem.W.fnOf "dual" "dual" (defArgs s_dual) (defBody s_dual) (defScope s_dual) .none kV14 dc14 pm14 an14 cd14 ct14), sl14⟩)
    (c14 : PySem.W.codeIn K cd14 "dual" = true)
    (k14 : PySem.W.keepIn K (.ref f14) = true)
    (a15 : PySem.W.nsIn K mainGlobals "turned" = some (some (.ref f15)))
    (l15 : K.lookup f15 = some ⟨oc15, od15, .func (PySem.W.fnOf "turned" "turned" (defArgs s_turned) (defBody s_turned) (defScope s_turned) .none kV15 dc15 pm15 an15 cd15 ct15), sl15⟩)
    (c15 : PySem.W.codeIn K cd15 "turned" = true)
    (k15 : PySem.W.keepIn K (.ref f15) = true)
    (a16 : PySem.W.nsIn K mainGlobals "gains_of" = some (some (.ref f16)))
    (l16 : K.lookup f16 = some ⟨oc16, od16, .func (PySem.W.fnOf "gains_of" "gains_of" (defArgs s_gains_of) (defBody s_gains_of) (defScope s_gains_of) .none kV16 dc16 pm16 an16 cd16 ct16), sl16⟩)
    (c16 : PySem.W.codeIn K cd16 "gains_of" = true)
    (k16 : PySem.W.keepIn K (.ref f16) = true)
    (a17 : PySem.W.nsIn K mainGlobals "fewest_to_turn" = some (some (.ref f17)))
    (l17 : K.lookup f17 = some ⟨oc17, od17, .func (PySem.W.fnOf "fewest_to_turn" "fewest_to_turn" (defArgs s_fewest_to_turn) (defBody s_fewest_to_turn) (defScope s_fewest_to_turn) .none kV17 dc17 pm17 an17 cd17 ct17), sl17⟩)
    (c17 : PySem.W.codeIn K cd17 "fewest_to_turn" = true)
    (k17 : PySem.W.keepIn K (.ref f17) = true)
    (a18 : PySem.W.nsIn K mainGlobals "put_in" = some (some (.ref f18)))
    (l18 : K.lookup f18 = some ⟨oc18, od18, .func (PySem.W.fnOf "put_in" "put_in" (defArgs s_put_in) (defBody s_put_in) (defScope s_put_in) .none kV18 dc18 pm18 an18 cd18 ct18), sl18⟩)
    (c18 : PySem.W.codeIn K cd18 "put_in" = true)
    (k18 : PySem.W.keepIn K (.ref f18) = true)
    (a19 : PySem.W.nsIn K mainGlobals "_law_source" = some (some (.ref f19)))
    (l19 : K.lookup f19 = some ⟨oc19, od19, .func (PySem.W.fnOf "_law_source" "_law_source" (defArgs s__law_source) (defBody s__law_source) (defScope s__law_source) .none kV19 dc19 pm19 an19 cd19 ct19), sl19⟩)
    (c19 : PySem.W.codeIn K cd19 "_law_source" = true)
    (k19 : PySem.W.keepIn K (.ref f19) = true)
    (a20 : PySem.W.nsIn K mainGlobals "_law_draw" = some (some (.ref f20)))
    (l20 : K.lookup f20 = some ⟨oc20, od20, .func (PySem.W.fnOf "_law_draw" "_law_draw" (defArgs s__law_draw) (defBody s__law_draw) (defScope s__law_draw) .none kV20 dc20 pm20 an20 cd20 ct20), sl20⟩)
    (c20 : PySem.W.codeIn K cd20 "_law_draw" = true)
    (k20 : PySem.W.keepIn K (.ref f20) = true)
    (a21 : PySem.W.nsIn K mainGlobals "_law_choice" = some (some (.ref f21)))
    (l21 : K.lookup f21 = some ⟨oc21, od21, .func (PySem.W.fnOf "_law_choice" "_law_choice" (defArgs s__law_choice) (defBody s__law_choice) (defScope s__law_choice) .none kV21 dc21 pm21 an21 cd21 ct21), sl21⟩)
    (c21 : PySem.W.codeIn K cd21 "_law_choice" = true)
    (k21 : PySem.W.keepIn K (.ref f21) = true)
    (a22 : PySem.W.nsIn K mainGlobals "_law_order" = some (some (.ref f22)))
    (l22 : K.lookup f22 = some ⟨oc22, od22, .func (PySem.W.fnOf "_law_order" "_law_order" (defArgs s__law_order) (defBody s__law_order) (defScope s__law_order) .none kV22 dc22 pm22 an22 cd22 ct22), sl22⟩)
    (c22 : PySem.W.codeIn K cd22 "_law_order" = true)
    (k22 : PySem.W.keepIn K (.ref f22) = true)
    (a23 : PySem.W.nsIn K mainGlobals "_law_places" = some (some (.ref f23)))
    (l23 : K.lookup f23 = some ⟨oc23, od23, .func (PySem.W.fnOf "_law_places" "_law_places" (defArgs s__law_places) (defBody s__law_places) (defScope s__law_places) .none kV23 dc23 pm23 an23 cd23 ct23), sl23⟩)
    (c23 : PySem.W.codeIn K cd23 "_law_places" = true)
    (k23 : PySem.W.keepIn K (.ref f23) = true)
    (a24 : PySem.W.nsIn K mainGlobals "_law_score" = some (some (.ref f24)))
    (l24 : K.lookup f24 = some ⟨oc24, od24, .func (PySem.W.fnOf "_law_score" "_law_score" (defArgs s__law_score) (defBody s__law_score) (defScope s__law_score) .none kV24 dc24 pm24 an24 cd24 ct24), sl24⟩)
    (c24 : PySem.W.codeIn K cd24 "_law_score" = true)
    (k24 : PySem.W.keepIn K (.ref f24) = true)
    (a25 : PySem.W.nsIn K mainGlobals "_law_rest" = some (some (.ref f25)))
    (l25 : K.lookup f25 = some ⟨oc25, od25, .func (PySem.W.fnOf "_law_rest" "_law_rest" (defArgs s__law_rest) (defBody s__law_rest) (defScope s__law_rest) .none kV25 dc25 pm25 an25 cd25 ct25), sl25⟩)
    (c25 : PySem.W.codeIn K cd25 "_law_rest" = true)
    (k25 : PySem.W.keepIn K (.ref f25) = true)
    (a26 : PySem.W.nsIn K mainGlobals "_law_name" = some (some (.ref f26)))
    (l26 : K.lookup f26 = some ⟨oc26, od26, .func (PySem.W.fnOf "_law_name" "_law_name" (defArgs s__law_name) (defBody s__law_name) (defScope s__law_name) .none kV26 dc26 pm26 an26 cd26 ct26), sl26⟩)
    (c26 : PySem.W.codeIn K cd26 "_law_name" = true)
    (k26 : PySem.W.keepIn K (.ref f26) = true)
    (a27 : PySem.W.nsIn K mainGlobals "_law_pair_right" = some (some (.ref f27)))
    (l27 : K.lookup f27 = some ⟨oc27, od27, .func (PySem.W.fnOf "_law_pair_right" "_law_pair_right" (defArgs s__law_pair_right) (defBody s__law_pair_right) (defScope s__law_pair_right) .none kV27 dc27 pm27 an27 cd27 ct27), sl27⟩)
    (c27 : PySem.W.codeIn K cd27 "_law_pair_right" = true)
    (k27 : PySem.W.keepIn K (.ref f27) = true)
    (a28 : PySem.W.nsIn K mainGlobals "law" = some (some (.ref f28)))
    (l28 : K.lookup f28 = some ⟨oc28, od28, .func (PySem.W.fnOf "law" "law" (defArgs s_law) (defBody s_law) (defScope s_law) .none kV28 dc28 pm28 an28 cd28 ct28), sl28⟩)
    (c28 : PySem.W.codeIn K cd28 "law" = true)
    (k28 : PySem.W.keepIn K (.ref f28) = true)
    (td_law : cd28 = .ref tc_law)
    (tl_law : K.lookup tc_law = some ⟨xe_law, xo_law, .fields xv_law, xs_law⟩)
    (tv_law : (xv_law[11]? : Option Value) = some (.ref tP_law))
    (tp_law : K.lookup tP_law = none)
    (tz__law_refuses : PySem.W.nsIn K mainGlobals "_law_refuses" = some none)
    (tz__law_call : PySem.W.nsIn K mainGlobals "_law_call" = some none)
    (tz__law_order_calls : PySem.W.nsIn K mainGlobals "_law_order_calls" = some none)
    (tz__law_team_calls : PySem.W.nsIn K mainGlobals "_law_team_calls" = some none)
    (tz__law_count_calls : PySem.W.nsIn K mainGlobals "_law_count_calls" = some none)
    (tz__law_others_right : PySem.W.nsIn K mainGlobals "_law_others_right" = some none)
    (ea_InvalidOrder : PySem.W.nsIn K mainGlobals "InvalidOrder" = some (some (.ref e_InvalidOrder)))
    (ex_InvalidOrder : PySem.W.excIn K e_InvalidOrder [.type "ValueError", .type "Exception", .type "BaseException", .type "object"] "ValueError.__new__" = true)
    (ek_InvalidOrder : PySem.W.keepIn K (.ref e_InvalidOrder) = true)
    (eb_InvalidOrder : PySem.W.subIn K (.ref e_InvalidOrder) (.type "BaseException") = some true)
    (et_InvalidOrder : PySem.W.typeIn K (.ref e_InvalidOrder) = some (.type "type"))
    (ei_InvalidOrder : PySem.W.isClsIn K e_InvalidOrder = true)
    (ea_InvalidTeam : PySem.W.nsIn K mainGlobals "InvalidTeam" = some (some (.ref e_InvalidTeam)))
    (ex_InvalidTeam : PySem.W.excIn K e_InvalidTeam [.type "ValueError", .type "Exception", .type "BaseException", .type "object"] "ValueError.__new__" = true)
    (ek_InvalidTeam : PySem.W.keepIn K (.ref e_InvalidTeam) = true)
    (eb_InvalidTeam : PySem.W.subIn K (.ref e_InvalidTeam) (.type "BaseException") = some true)
    (et_InvalidTeam : PySem.W.typeIn K (.ref e_InvalidTeam) = some (.type "type"))
    (ei_InvalidTeam : PySem.W.isClsIn K e_InvalidTeam = true)
    (ea_InvalidCount : PySem.W.nsIn K mainGlobals "InvalidCount" = some (some (.ref e_InvalidCount)))
    (ex_InvalidCount : PySem.W.excIn K e_InvalidCount [.type "ValueError", .type "Exception", .type "BaseException", .type "object"] "ValueError.__new__" = true)
    (ek_InvalidCount : PySem.W.keepIn K (.ref e_InvalidCount) = true)
    (eb_InvalidCount : PySem.W.subIn K (.ref e_InvalidCount) (.type "BaseException") = some true)
    (et_InvalidCount : PySem.W.typeIn K (.ref e_InvalidCount) = some (.type "type"))
    (ei_InvalidCount : PySem.W.isClsIn K e_InvalidCount = true)
    (ea_InvalidNumber : PySem.W.nsIn K mainGlobals "InvalidNumber" = some (some (.ref e_InvalidNumber)))
    (ex_InvalidNumber : PySem.W.excIn K e_InvalidNumber [.type "ValueError", .type "Exception", .type "BaseException", .type "object"] "ValueError.__new__" = true)
    (ek_InvalidNumber : PySem.W.keepIn K (.ref e_InvalidNumber) = true)
    (eb_InvalidNumber : PySem.W.subIn K (.ref e_InvalidNumber) (.type "BaseException") = some true)
    (et_InvalidNumber : PySem.W.typeIn K (.ref e_InvalidNumber) = some (.type "type"))
    (ei_InvalidNumber : PySem.W.isClsIn K e_InvalidNumber = true)
    (ea_InvalidGap : PySem.W.nsIn K mainGlobals "InvalidGap" = some (some (.ref e_InvalidGap)))
    (ex_InvalidGap : PySem.W.excIn K e_InvalidGap [.type "ValueError", .type "Exception", .type "BaseException", .type "object"] "ValueError.__new__" = true)
    (ek_InvalidGap : PySem.W.keepIn K (.ref e_InvalidGap) = true)
    (eb_InvalidGap : PySem.W.subIn K (.ref e_InvalidGap) (.type "BaseException") = some true)
    (et_InvalidGap : PySem.W.typeIn K (.ref e_InvalidGap) = some (.type "type"))
    (ei_InvalidGap : PySem.W.isClsIn K e_InvalidGap = true)
    (ea_NoScore : PySem.W.nsIn K mainGlobals "NoScore" = some (some (.ref e_NoScore)))
    (ex_NoScore : PySem.W.excIn K e_NoScore [.type "ValueError", .type "Exception", .type "BaseException", .type "object"] "ValueError.__new__" = true)
    (ek_NoScore : PySem.W.keepIn K (.ref e_NoScore) = true)
    (eb_NoScore : PySem.W.subIn K (.ref e_NoScore) (.type "BaseException") = some true)
    (et_NoScore : PySem.W.typeIn K (.ref e_NoScore) = some (.type "type"))
    (ei_NoScore : PySem.W.isClsIn K e_NoScore = true)
    (ea_TooMany : PySem.W.nsIn K mainGlobals "TooMany" = some (some (.ref e_TooMany)))
    (ek_TooMany : PySem.W.keepIn K (.ref e_TooMany) = true)
    (eb_TooMany : PySem.W.subIn K (.ref e_TooMany) (.type "BaseException") = some true)
    (et_TooMany : PySem.W.typeIn K (.ref e_TooMany) = some (.type "type"))
    (ei_TooMany : PySem.W.isClsIn K e_TooMany = true)
    (ol_TooMany : K.lookup e_TooMany = some (excClassObj onm_TooMany oq_TooMany e_TooMany oN_TooMany obs_TooMany obm_TooMany true osn_TooMany osub_TooMany oab_TooMany ocol_TooMany odd_TooMany ok0_TooMany ok1_TooMany ok2_TooMany ok3_TooMany ok5_TooMany "ValueError.__new__"))
    (or_TooMany : PySem.HandSPX.refsVE obm_TooMany = true)
    (osa_TooMany : PySem.W.findIn K (.ref e_TooMany) "__setattr__" = some (some (.builtin "object.__setattr__")))
    (oh_TooMany : PySem.W.findIn K (.ref e_TooMany) "limit" = some none)
    (oi_TooMany : PySem.W.findIn K (.ref e_TooMany) "__init__" = some (some (.ref fi_TooMany)))
    (ot_TooMany : PySem.W.typeIn K (.ref fi_TooMany) = some (.type "function"))
    (oga_TooMany : PySem.W.findIn K (.ref e_TooMany) "__getattribute__" = some (some (.builtin "BaseException.__getattribute__")))
    (ogg_TooMany : PySem.W.findIn K (.ref e_TooMany) "__getattr__" = some none)
    (ohd_TooMany : PySem.W.hasDictIn K e_TooMany = true)
    (li_TooMany : K.lookup fi_TooMany = some ⟨oci_TooMany, odi_TooMany, .func (PySem.W.fnOf "__init__" "TooMany.__init__" (defArgs s_ini_TooMany) (defBody s_ini_TooMany) (defScope s_ini_TooMany) .none kVi_TooMany dci_TooMany pmi_TooMany ani_TooMany cdi_TooMany cti_TooMany), sli_TooMany⟩)
    (ci_TooMany : PySem.W.codeIn K cdi_TooMany "TooMany.__init__" = true)
    (ki_TooMany : PySem.W.keepIn K (.ref fi_TooMany) = true)
    (ua_TooMany : PySem.W.nsIn K mainGlobals "PlaceError" = some (some (.ref eu_TooMany)))
    (ur_TooMany : PySem.W.readsIn K eu_TooMany (.type "type") = true)
    (ug_TooMany : PySem.W.specialIn K (.ref eu_TooMany) "__getattribute__" = some (some (.builtin "type.__getattribute__")))
    (uv_TooMany : PySem.W.findCls K (.ref eu_TooMany) (.type "type") "__init__" = some (.val (.builtin "ValueError.__init__")))
    (es_InvalidOrder_InvalidGap : PySem.W.subIn K (.ref e_InvalidOrder) (.ref e_InvalidGap) = some false)
    (es_InvalidOrder_NoScore : PySem.W.subIn K (.ref e_InvalidOrder) (.ref e_NoScore) = some false)
    (es_InvalidOrder_TooMany : PySem.W.subIn K (.ref e_InvalidOrder) (.ref e_TooMany) = some false)
    (es_InvalidTeam_InvalidGap : PySem.W.subIn K (.ref e_InvalidTeam) (.ref e_InvalidGap) = some false)
    (es_InvalidTeam_NoScore : PySem.W.subIn K (.ref e_InvalidTeam) (.ref e_NoScore) = some false)
    (es_InvalidTeam_TooMany : PySem.W.subIn K (.ref e_InvalidTeam) (.ref e_TooMany) = some false)
    (es_InvalidCount_InvalidGap : PySem.W.subIn K (.ref e_InvalidCount) (.ref e_InvalidGap) = some false)
    (es_InvalidCount_NoScore : PySem.W.subIn K (.ref e_InvalidCount) (.ref e_NoScore) = some false)
    (es_InvalidCount_TooMany : PySem.W.subIn K (.ref e_InvalidCount) (.ref e_TooMany) = some false)
    (es_InvalidNumber_InvalidGap : PySem.W.subIn K (.ref e_InvalidNumber) (.ref e_InvalidGap) = some false)
    (es_InvalidNumber_NoScore : PySem.W.subIn K (.ref e_InvalidNumber) (.ref e_NoScore) = some false)
    (es_InvalidNumber_TooMany : PySem.W.subIn K (.ref e_InvalidNumber) (.ref e_TooMany) = some false)
    (es_InvalidGap_InvalidGap : PySem.W.subIn K (.ref e_InvalidGap) (.ref e_InvalidGap) = some true)
    (es_InvalidGap_NoScore : PySem.W.subIn K (.ref e_InvalidGap) (.ref e_NoScore) = some false)
    (es_InvalidGap_TooMany : PySem.W.subIn K (.ref e_InvalidGap) (.ref e_TooMany) = some false)
    (es_NoScore_InvalidGap : PySem.W.subIn K (.ref e_NoScore) (.ref e_InvalidGap) = some false)
    (es_NoScore_NoScore : PySem.W.subIn K (.ref e_NoScore) (.ref e_NoScore) = some true)
    (es_NoScore_TooMany : PySem.W.subIn K (.ref e_NoScore) (.ref e_TooMany) = some false)
    (es_TooMany_InvalidGap : PySem.W.subIn K (.ref e_TooMany) (.ref e_InvalidGap) = some false)
    (es_TooMany_NoScore : PySem.W.subIn K (.ref e_TooMany) (.ref e_NoScore) = some false)
    (es_TooMany_TooMany : PySem.W.subIn K (.ref e_TooMany) (.ref e_TooMany) = some true)
    (zz_abs : PySem.W.nsIn K mainGlobals "abs" = some none)
    (zz_all : PySem.W.nsIn K mainGlobals "all" = some none)
    (zz_bool : PySem.W.nsIn K mainGlobals "bool" = some none)
    (zz_enumerate : PySem.W.nsIn K mainGlobals "enumerate" = some none)
    (zz_int : PySem.W.nsIn K mainGlobals "int" = some none)
    (zz_isinstance : PySem.W.nsIn K mainGlobals "isinstance" = some none)
    (zz_len : PySem.W.nsIn K mainGlobals "len" = some none)
    (zz_list : PySem.W.nsIn K mainGlobals "list" = some none)
    (zz_max : PySem.W.nsIn K mainGlobals "max" = some none)
    (zz_min : PySem.W.nsIn K mainGlobals "min" = some none)
    (zz_range : PySem.W.nsIn K mainGlobals "range" = some none)
    (zz_str : PySem.W.nsIn K mainGlobals "str" = some none)
    (zz_sum : PySem.W.nsIn K mainGlobals "sum" = some none)
    (cc_MOST_COUNT : PySem.W.nsIn K mainGlobals "MOST_COUNT" = some (some (.int 7 t_MOST_COUNT)))
    (cc_MOST_RUNNERS : PySem.W.nsIn K mainGlobals "MOST_RUNNERS" = some (some (.int 40 t_MOST_RUNNERS)))
    (cc_TEAMS : PySem.W.nsIn K mainGlobals "TEAMS" = some (some (.str "abcdef" t_TEAMS))) :
    (∀ n ∈ lamNames, ∀ c P, PySem.W.tabIn K n = some (c, P) → K.lookup P = none ∧ ((recsOf q).any fun e => e.name == n) = true) ∧ ∃ fd : FuncData, (∀ (s : Shared) (v : Value), BindsTo s fd ⟨[v], []⟩ [("script", v)]) ∧ ∀ base : Heap, K.In base → base.Ns mainGlobals mg → (∀ n ∈ lamNames, ∀ c P, PySem.W.tabIn K n = some (c, P) → LamX.TabB base mg c P) → FnOk l.prog w K mg base CX0 9 fa fd ["script"] (spLawT K) := by
  have e := hfa.symm.trans (PySem.W.mg_of X G a28)
  cases e
  have TN_law : PySem.W.tabIn K "law" = some (tc_law, tP_law) := tabIn_of a28 l28 rfl td_law tl_law tv_law
  have TZ__law_refuses : PySem.W.tabIn K "_law_refuses" = none := tabIn_none tz__law_refuses
  have TZ__law_call : PySem.W.tabIn K "_law_call" = none := tabIn_none tz__law_call
  have TZ__law_order_calls : PySem.W.tabIn K "_law_order_calls" = none := tabIn_none tz__law_order_calls
  have TZ__law_team_calls : PySem.W.tabIn K "_law_team_calls" = none := tabIn_none tz__law_team_calls
  have TZ__law_count_calls : PySem.W.tabIn K "_law_count_calls" = none := tabIn_none tz__law_count_calls
  have TZ__law_others_right : PySem.W.tabIn K "_law_others_right" = none := tabIn_none tz__law_others_right
  have TU_law : tabUniq K "law" tP_law = true := tabUniq_by (fun n hn => by
    unfold lamNames at hn
    simp only [List.mem_cons, List.not_mem_nil, or_false] at hn
    rcases hn with rfl | rfl | rfl | rfl | rfl | rfl | rfl
    · exact .inl rfl
    · exact .inr fun p hp => by rw [TZ__law_refuses] at hp; cases hp
    · exact .inr fun p hp => by rw [TZ__law_call] at hp; cases hp
    · exact .inr fun p hp => by rw [TZ__law_order_calls] at hp; cases hp
    · exact .inr fun p hp => by rw [TZ__law_team_calls] at hp; cases hp
    · exact .inr fun p hp => by rw [TZ__law_count_calls] at hp; cases hp
    · exact .inr fun p hp => by rw [TZ__law_others_right] at hp; cases hp)
  have F0 := fun_mk (st := s_is_between) l0 c0 k0
  have B0 := F0.binds (ps := ["value", "low", "high"]) fun _ _ _ _ _ _ us hl => match us, hl with | [_, _, _], _ => rfl
  have F1 := fun_mk (st := s_is_text_of) l1 c1 k1
  have B1 := F1.binds (ps := ["value", "signs", "most"]) fun _ _ _ _ _ _ us hl => match us, hl with | [_, _, _], _ => rfl
  have F2 := fun_mk (st := s_is_order) l2 c2 k2
  have B2 := F2.binds (ps := ["value"]) fun _ _ _ _ _ _ us hl => match us, hl with | [_], _ => rfl
  have F3 := fun_mk (st := s_is_team) l3 c3 k3
  have B3 := F3.binds (ps := ["value"]) fun _ _ _ _ _ _ us hl => match us, hl with | [_], _ => rfl
  have F4 := fun_mk (st := s_need_order) l4 c4 k4
  have B4 := F4.binds (ps := ["order"]) fun _ _ _ _ _ _ us hl => match us, hl with | [_], _ => rfl
  have F5 := fun_mk (st := s_need_team) l5 c5 k5
  have B5 := F5.binds (ps := ["team"]) fun _ _ _ _ _ _ us hl => match us, hl with | [_], _ => rfl
  have F6 := fun_mk (st := s_need_count) l6 c6 k6
  have B6 := F6.binds (ps := ["count"]) fun _ _ _ _ _ _ us hl => match us, hl with | [_], _ => rfl
  have F7 := fun_mk (st := s_places_of) l7 c7 k7
  have B7 := F7.binds (ps := ["order", "team"]) fun _ _ _ _ _ _ us hl => match us, hl with | [_, _], _ => rfl
  have F8 := fun_mk (st := s_score_of) l8 c8 k8
  have B8 := F8.binds (ps := ["order", "team", "count"]) fun _ _ _ _ _ _ us hl => match us, hl with | [_, _, _], _ => rfl
  have F9 := fun_mk (st := s_kept) l9 c9 k9
  have B9 := F9.binds (ps := ["order", "teams"]) fun _ _ _ _ _ _ us hl => match us, hl with | [_, _], _ => rfl
  have F10 := fun_mk (st := s_score) l10 c10 k10
  have B10 := F10.binds (ps := ["order", "team", "count"]) fun _ _ _ _ _ _ us hl => match us, hl with | [_, _, _], _ => rfl
  have F11 := fun_mk (st := s_need_number) l11 c11 k11
  have B11 := F11.binds (ps := ["value", "low", "high"]) fun _ _ _ _ _ _ us hl => match us, hl with | [_, _, _], _ => rfl
  have F12 := fun_mk (st := s_need_two) l12 c12 k12
  have B12 := F12.binds (ps := ["order", "one", "two", "count"]) fun _ _ _ _ _ _ us hl => match us, hl with | [_, _, _, _], _ => rfl
  have F13 := fun_mk (st := s_dual_of) l13 c13 k13
  have B13 := F13.binds (ps := ["order", "one", "two", "count"]) fun _ _ _ _ _ _ us hl => match us, hl with | [_, _, _, _], _ => rfl
  have F14 := fun_mk (st := s_dual) l14 c14 k14
  have B14 := F14.binds (ps := ["order", "one", "two", "count"]) fun _ _ _ _ _ _ us hl => match us, hl with | [_, _, _, _], _ => rfl
  have F15 := fun_mk (st := s_turned) l15 c15 k15
  have B15 := F15.binds (ps := ["order", "one", "two", "count"]) fun _ _ _ _ _ _ us hl => match us, hl with | [_, _, _, _], _ => rfl
  have F16 := fun_mk (st := s_gains_of) l16 c16 k16
  have B16 := F16.binds (ps := ["order", "one", "two", "count"]) fun _ _ _ _ _ _ us hl => match us, hl with | [_, _, _, _], _ => rfl
  have F17 := fun_mk (st := s_fewest_to_turn) l17 c17 k17
  have B17 := F17.binds (ps := ["order", "one", "two", "count"]) fun _ _ _ _ _ _ us hl => match us, hl with | [_, _, _, _], _ => rfl
  have F18 := fun_mk (st := s_put_in) l18 c18 k18
  have B18 := F18.binds (ps := ["order", "gap", "team", "number"]) fun _ _ _ _ _ _ us hl => match us, hl with | [_, _, _, _], _ => rfl
  have F19 := fun_mk (st := s__law_source) l19 c19 k19
  have B19 := F19.binds (ps := ["script", "index"]) fun _ _ _ _ _ _ us hl => match us, hl with | [_, _], _ => rfl
  have F20 := fun_mk (st := s__law_draw) l20 c20 k20
  have B20 := F20.binds (ps := ["source", "size"]) fun _ _ _ _ _ _ us hl => match us, hl with | [_, _], _ => rfl
  have F21 := fun_mk (st := s__law_choice) l21 c21 k21
  have B21 := F21.binds (ps := ["source", "items"]) fun _ _ _ _ _ _ us hl => match us, hl with | [_, _], _ => rfl
  have F22 := fun_mk (st := s__law_order) l22 c22 k22
  have B22 := F22.binds (ps := ["source", "teams", "most"]) fun _ _ _ _ _ _ us hl => match us, hl with | [_, _, _], _ => rfl
  have F23 := fun_mk (st := s__law_places) l23 c23 k23
  have B23 := F23.binds (ps := ["order", "team"]) fun _ _ _ _ _ _ us hl => match us, hl with | [_, _], _ => rfl
  have F24 := fun_mk (st := s__law_score) l24 c24 k24
  have B24 := F24.binds (ps := ["order", "team", "count"]) fun _ _ _ _ _ _ us hl => match us, hl with | [_, _, _], _ => rfl
  have F25 := fun_mk (st := s__law_rest) l25 c25 k25
  have B25 := F25.binds (ps := ["order", "teams"]) fun _ _ _ _ _ _ us hl => match us, hl with | [_, _], _ => rfl
  have F26 := fun_mk (st := s__law_name) l26 c26 k26
  have B26 := F26.binds (ps := ["call"]) fun _ _ _ _ _ _ us hl => match us, hl with | [_], _ => rfl
  have F27 := fun_mk (st := s__law_pair_right) l27 c27 k27
  have B27 := F27.binds (ps := ["order", "one", "two", "count"]) fun _ _ _ _ _ _ us hl => match us, hl with | [_, _, _, _], _ => rfl
  have F28 := fun_mk (st := s_law) l28 c28 k28
  have B28 := F28.binds (ps := ["script"]) fun _ _ _ _ _ _ us hl => match us, hl with | [_], _ => rfl
  have FI_TooMany := fun_mk (st := s_ini_TooMany) li_TooMany ci_TooMany ki_TooMany
  have BI_TooMany := FI_TooMany.binds (ps := ["self", "limit"]) fun _ _ _ _ _ _ us hl => match us, hl with | [_, _], _ => rfl
  let T : Txt K mg := {
    f_is_between := _,
    d_is_between := _,
    F_is_between := F0,
    b_is_between := B0,
    g_is_between := PySem.W.mg_of X G a0,
    f_is_text_of := _,
    d_is_text_of := _,
    F_is_text_of := F1,
    b_is_text_of := B1,
    g_is_text_of := PySem.W.mg_of X G a1,
    f_is_order := _,
    d_is_order := _,
    F_is_order := F2,
    b_is_order := B2,
    g_is_order := PySem.W.mg_of X G a2,
    f_is_team := _,
    d_is_team := _,
    F_is_team := F3,
    b_is_team := B3,
    g_is_team := PySem.W.mg_of X G a3,
    f_need_order := _,
    d_need_order := _,
    F_need_order := F4,
    b_need_order := B4,
    g_need_order := PySem.W.mg_of X G a4,
    f_need_team := _,
    d_need_team := _,
    F_need_team := F5,
    b_need_team := B5,
    g_need_team := PySem.W.mg_of X G a5,
    f_need_count := _,
    d_need_count := _,
    F_need_count := F6,
    b_need_count := B6,
    g_need_count := PySem.W.mg_of X G a6,
    f_places_of := _,
    d_places_of := _,
    F_places_of := F7,
    b_places_of := B7,
    g_places_of := PySem.W.mg_of X G a7,
    f_score_of := _,
    d_score_of := _,
    F_score_of := F8,
    b_score_of := B8,
    g_score_of := PySem.W.mg_of X G a8,
    f_kept := _,
    d_kept := _,
    F_kept := F9,
    b_kept := B9,
    g_kept := PySem.W.mg_of X G a9,
    f_score := _,
    d_score := _,
    F_score := F10,
    b_score := B10,
    g_score := PySem.W.mg_of X G a10,
    f_need_number := _,
    d_need_number := _,
    F_need_number := F11,
    b_need_number := B11,
    g_need_number := PySem.W.mg_of X G a11,
    f_need_two := _,
    d_need_two := _,
    F_need_two := F12,
    b_need_two := B12,
    g_need_two := PySem.W.mg_of X G a12,
    f_dual_of := _,
    d_dual_of := _,
    F_dual_of := F13,
    b_dual_of := B13,
    g_dual_of := PySem.W.mg_of X G a13,
    f_dual := _,
    d_dual := _,
    F_dual := F14,
    b_dual := B14,
    g_dual := PySem.W.mg_of X G a14,
    f_turned := _,
    d_turned := _,
    F_turned := F15,
    b_turned := B15,
    g_turned := PySem.W.mg_of X G a15,
    f_gains_of := _,
    d_gains_of := _,
    F_gains_of := F16,
    b_gains_of := B16,
    g_gains_of := PySem.W.mg_of X G a16,
    f_fewest_to_turn := _,
    d_fewest_to_turn := _,
    F_fewest_to_turn := F17,
    b_fewest_to_turn := B17,
    g_fewest_to_turn := PySem.W.mg_of X G a17,
    f_put_in := _,
    d_put_in := _,
    F_put_in := F18,
    b_put_in := B18,
    g_put_in := PySem.W.mg_of X G a18,
    f__law_source := _,
    d__law_source := _,
    F__law_source := F19,
    b__law_source := B19,
    g__law_source := PySem.W.mg_of X G a19,
    f__law_draw := _,
    d__law_draw := _,
    F__law_draw := F20,
    b__law_draw := B20,
    g__law_draw := PySem.W.mg_of X G a20,
    f__law_choice := _,
    d__law_choice := _,
    F__law_choice := F21,
    b__law_choice := B21,
    g__law_choice := PySem.W.mg_of X G a21,
    f__law_order := _,
    d__law_order := _,
    F__law_order := F22,
    b__law_order := B22,
    g__law_order := PySem.W.mg_of X G a22,
    f__law_places := _,
    d__law_places := _,
    F__law_places := F23,
    b__law_places := B23,
    g__law_places := PySem.W.mg_of X G a23,
    f__law_score := _,
    d__law_score := _,
    F__law_score := F24,
    b__law_score := B24,
    g__law_score := PySem.W.mg_of X G a24,
    f__law_rest := _,
    d__law_rest := _,
    F__law_rest := F25,
    b__law_rest := B25,
    g__law_rest := PySem.W.mg_of X G a25,
    f__law_name := _,
    d__law_name := _,
    F__law_name := F26,
    b__law_name := B26,
    g__law_name := PySem.W.mg_of X G a26,
    f__law_pair_right := _,
    d__law_pair_right := _,
    F__law_pair_right := F27,
    b__law_pair_right := B27,
    g__law_pair_right := PySem.W.mg_of X G a27,
    f_law := _,
    d_law := _,
    F_law := F28,
    b_law := B28,
    g_law := PySem.W.mg_of X G a28,
    tc_law := tc_law,
    tP_law := tP_law,
    tn_law := TN_law,
    tu_law := TU_law,
    dc_law := td_law,
    e_InvalidOrder := e_InvalidOrder,
    eg_InvalidOrder := PySem.W.mg_of X G ea_InvalidOrder,
    ex_InvalidOrder := ex_InvalidOrder,
    ek_InvalidOrder := ek_InvalidOrder,
    eb_InvalidOrder := eb_InvalidOrder,
    et_InvalidOrder := et_InvalidOrder,
    ei_InvalidOrder := ei_InvalidOrder,
    e_InvalidTeam := e_InvalidTeam,
    eg_InvalidTeam := PySem.W.mg_of X G ea_InvalidTeam,
    ex_InvalidTeam := ex_InvalidTeam,
    ek_InvalidTeam := ek_InvalidTeam,
    eb_InvalidTeam := eb_InvalidTeam,
    et_InvalidTeam := et_InvalidTeam,
    ei_InvalidTeam := ei_InvalidTeam,
    e_InvalidCount := e_InvalidCount,
    eg_InvalidCount := PySem.W.mg_of X G ea_InvalidCount,
    ex_InvalidCount := ex_InvalidCount,
    ek_InvalidCount := ek_InvalidCount,
    eb_InvalidCount := eb_InvalidCount,
    et_InvalidCount := et_InvalidCount,
    ei_InvalidCount := ei_InvalidCount,
    e_InvalidNumber := e_InvalidNumber,
    eg_InvalidNumber := PySem.W.mg_of X G ea_InvalidNumber,
    ex_InvalidNumber := ex_InvalidNumber,
    ek_InvalidNumber := ek_InvalidNumber,
    eb_InvalidNumber := eb_InvalidNumber,
    et_InvalidNumber := et_InvalidNumber,
    ei_InvalidNumber := ei_InvalidNumber,
    e_InvalidGap := e_InvalidGap,
    eg_InvalidGap := PySem.W.mg_of X G ea_InvalidGap,
    ex_InvalidGap := ex_InvalidGap,
    ek_InvalidGap := ek_InvalidGap,
    eb_InvalidGap := eb_InvalidGap,
    et_InvalidGap := et_InvalidGap,
    ei_InvalidGap := ei_InvalidGap,
    e_NoScore := e_NoScore,
    eg_NoScore := PySem.W.mg_of X G ea_NoScore,
    ex_NoScore := ex_NoScore,
    ek_NoScore := ek_NoScore,
    eb_NoScore := eb_NoScore,
    et_NoScore := et_NoScore,
    ei_NoScore := ei_NoScore,
    e_TooMany := e_TooMany,
    eg_TooMany := PySem.W.mg_of X G ea_TooMany,
    ek_TooMany := ek_TooMany,
    eb_TooMany := eb_TooMany,
    et_TooMany := et_TooMany,
    ei_TooMany := ei_TooMany,
    fi_TooMany := fi_TooMany,
    di_TooMany := _,
    Fi_TooMany := FI_TooMany,
    bi_TooMany := BI_TooMany,
    oC_TooMany := ⟨⟨_, _, _, _, _, _, _, _, _, _, _, _, _, _, _, ol_TooMany, or_TooMany⟩, osa_TooMany, eb_TooMany, et_TooMany, ek_TooMany⟩,
    oh_TooMany := oh_TooMany,
    oi_TooMany := oi_TooMany,
    ot_TooMany := ot_TooMany,
    ox_TooMany := ⟨oga_TooMany, ogg_TooMany, eb_TooMany, ohd_TooMany⟩,
    eu_TooMany := eu_TooMany,
    um_TooMany := PySem.W.mg_of X G ua_TooMany,
    ur_TooMany := ur_TooMany,
    ug_TooMany := ug_TooMany,
    uv_TooMany := uv_TooMany,
    es_InvalidOrder_InvalidGap := es_InvalidOrder_InvalidGap,
    es_InvalidOrder_NoScore := es_InvalidOrder_NoScore,
    es_InvalidOrder_TooMany := es_InvalidOrder_TooMany,
    es_InvalidTeam_InvalidGap := es_InvalidTeam_InvalidGap,
    es_InvalidTeam_NoScore := es_InvalidTeam_NoScore,
    es_InvalidTeam_TooMany := es_InvalidTeam_TooMany,
    es_InvalidCount_InvalidGap := es_InvalidCount_InvalidGap,
    es_InvalidCount_NoScore := es_InvalidCount_NoScore,
    es_InvalidCount_TooMany := es_InvalidCount_TooMany,
    es_InvalidNumber_InvalidGap := es_InvalidNumber_InvalidGap,
    es_InvalidNumber_NoScore := es_InvalidNumber_NoScore,
    es_InvalidNumber_TooMany := es_InvalidNumber_TooMany,
    es_InvalidGap_InvalidGap := es_InvalidGap_InvalidGap,
    es_InvalidGap_NoScore := es_InvalidGap_NoScore,
    es_InvalidGap_TooMany := es_InvalidGap_TooMany,
    es_NoScore_InvalidGap := es_NoScore_InvalidGap,
    es_NoScore_NoScore := es_NoScore_NoScore,
    es_NoScore_TooMany := es_NoScore_TooMany,
    es_TooMany_InvalidGap := es_TooMany_InvalidGap,
    es_TooMany_NoScore := es_TooMany_NoScore,
    es_TooMany_TooMany := es_TooMany_TooMany,
    z_abs := PySem.W.mg_none_of X G zz_abs,
    z_all := PySem.W.mg_none_of X G zz_all,
    z_bool := PySem.W.mg_none_of X G zz_bool,
    z_enumerate := PySem.W.mg_none_of X G zz_enumerate,
    z_int := PySem.W.mg_none_of X G zz_int,
    z_isinstance := PySem.W.mg_none_of X G zz_isinstance,
    z_len := PySem.W.mg_none_of X G zz_len,
    z_list := PySem.W.mg_none_of X G zz_list,
    z_max := PySem.W.mg_none_of X G zz_max,
    z_min := PySem.W.mg_none_of X G zz_min,
    z_range := PySem.W.mg_none_of X G zz_range,
    z_str := PySem.W.mg_none_of X G zz_str,
    z_sum := PySem.W.mg_none_of X G zz_sum,
    t_MOST_COUNT := t_MOST_COUNT,
    c_MOST_COUNT := PySem.W.mg_of X G cc_MOST_COUNT,
    t_MOST_RUNNERS := t_MOST_RUNNERS,
    c_MOST_RUNNERS := PySem.W.mg_of X G cc_MOST_RUNNERS,
    t_TEAMS := t_TEAMS,
    c_TEAMS := (PySem.W.mg_of X G cc_TEAMS).trans (by rw [show (Str.ofString "abcdef") = mkS [97, 98, 99, 100, 101, 102] by decide +kernel]) }
  refine ⟨fun n hn c P h => ?_, PySem.W.fnOf "law" "law" (defArgs s_law) (defBody s_law) (defScope s_law) .none kV28 dc28 pm28 an28 cd28 ct28, fun s v => .of_eq rfl, fun base _ _ TB => law_spT (ok_law T TB) hm⟩
  unfold lamNames at hn
  simp only [List.mem_cons, List.not_mem_nil, or_false] at hn
  rcases hn with rfl | rfl | rfl | rfl | rfl | rfl | rfl
  · rw [TN_law] at h; cases h; exact ⟨tp_law, rc_law⟩
  · rw [TZ__law_refuses] at h; cases h
  · rw [TZ__law_call] at h; cases h
  · rw [TZ__law_order_calls] at h; cases h
  · rw [TZ__law_team_calls] at h; cases h
  · rw [TZ__law_count_calls] at h; cases h
  · rw [TZ__law_others_right] at h; cases h
theorem walk {l : PySem.W.OpenLaw} {q : Program} {loose : List Str} {XP : (Str → Option Value) → Heap → Prop} {YP : World → Heap → Prop} {d : DefRec} {K : Params → PySem.W.Frag} (hn : l.most = some 63) (hdf : d.params.defaults = [])
    (hY : ∀ (w : World) (h : Heap), YP w h → (K w.params).In h)
    (F : ∀ (w : World) (mg : Str → Option Value) (fa : Addr) (h : Heap), (K w.params).In h → h.Ns mainGlobals mg → mg d.name = some (.ref fa) →
      (∀ n ∈ lamNames, ∀ c P, PySem.W.tabIn (K w.params) n = some (c, P) → (K w.params).lookup P = none ∧ ((recsOf q).any fun e => e.name == n) = true) ∧ ∃ fd : FuncData, (∀ (s : Shared) (u : Value), BindsTo s fd ⟨[u], []⟩ [("script", u)]) ∧ ∀ base : Heap, (K w.params).In base → base.Ns mainGlobals mg → (∀ n ∈ lamNames, ∀ c P, PySem.W.tabIn (K w.params) n = some (c, P) → LamX.TabB base mg c P) → FnOk l.prog w (K w.params) mg base CX0 9 fa fd ["script"] (spLawT (K w.params))) :
    PySem.W.WalkO q loose XP YP l.row.toRowW d [] (fun f vs => PySem.call f vs) :=
  walkT (k := 9) (x := "script") hn hdf ⟨rfl, by decide, by decide⟩ hY F
end Gx

open PySem PySem.W PyProof.Rows in
set_option maxRecDepth 100000 in
set_option maxHeartbeats 0 in
theorem PySem.Challenge.cw_placesums_k05_whole_two_teams_in_both_ra_holds : PySem.Challenge.rw_placesums_k05_whole_two_teams_in_both_ra.Holds := by
  w_on; o_law; k_head; (case hw => w_witness2)
  k_fill
  refine Gx.walk (l := PySem.Challenge.rw_placesums_k05_whole_two_teams_in_both_ra) rfl rfl (fun w h Y => PySem.W.km_in_of Y) ?F
  case F =>
    intro w mg fa h KX G hmg
    refine' Gx.all_mk KX G hmg Gx.law_true ?rc_law ?a0 ?l0 ?c0 ?k0 ?a1 ?l1 ?c1 ?k1 ?a2 ?l2 ?c2 ?k2 ?a3 ?l3 ?c3 ?k3 ?a4 ?l4 ?c4 ?k4 ?a5 ?l5 ?c5 ?k5 ?a6 ?l6 ?c6 ?k6 ?a7 ?l7 ?c7 ?k7 ?a8 ?l8 ?c8 ?k8 ?a9 ?l9 ?c9 ?k9 ?a10 ?l10 ?c10 ?k10 ?a11 ?l11 ?c11 ?k11 ?a12 ?l12 ?c12 ?k12 ?a13 ?l13 ?c13 ?k13 ?a14 ?l14 ?c14 ?k14 ?a15 ?l15 ?c15 ?k15 ?a16 ?l16 ?c16 ?k16 ?a17 ?l17 ?c17 ?k17 ?a18 ?l18 ?c18 ?k18 ?a19 ?l19 ?c19 ?k19 ?a20 ?l20 ?c20 ?k20 ?a21 ?l21 ?c21 ?k21 ?a22 ?l22 ?c22 ?k22 ?a23 ?l23 ?c23 ?k23 ?a24 ?l24 ?c24 ?k24 ?a25 ?l25 ?c25 ?k25 ?a26 ?l26 ?c26 ?k26 ?a27 ?l27 ?c27 ?k27 ?a28 ?l28 ?c28 ?k28 ?td_law ?tl_law ?tv_law ?tp_law ?tz__law_refuses ?tz__law_call ?tz__law_order_calls ?tz__law_team_calls ?tz__law_count_calls ?tz__law_others_right ?ea_InvalidOrder ?ex_InvalidOrder ?ek_InvalidOrder ?eb_InvalidOrder ?et_InvalidOrder ?ei_InvalidOrder ?ea_InvalidTeam ?ex_InvalidTeam ?ek_InvalidTeam ?eb_InvalidTeam ?et_InvalidTeam ?ei_InvalidTeam ?ea_InvalidCount ?ex_InvalidCount ?ek_InvalidCount ?eb_InvalidCount ?et_InvalidCount ?ei_InvalidCount ?ea_InvalidNumber ?ex_InvalidNumber ?ek_InvalidNumber ?eb_InvalidNumber ?et_InvalidNumber ?ei_InvalidNumber ?ea_InvalidGap ?ex_InvalidGap ?ek_InvalidGap ?eb_InvalidGap ?et_InvalidGap ?ei_InvalidGap ?ea_NoScore ?ex_NoScore ?ek_NoScore ?eb_NoScore ?et_NoScore ?ei_NoScore ?ea_TooMany ?ek_TooMany ?eb_TooMany ?et_TooMany ?ei_TooMany ?ol_TooMany ?or_TooMany ?osa_TooMany ?oh_TooMany ?oi_TooMany ?ot_TooMany ?oga_TooMany ?ogg_TooMany ?ohd_TooMany ?li_TooMany ?ci_TooMany ?ki_TooMany ?ua_TooMany ?ur_TooMany ?ug_TooMany ?uv_TooMany ?es_InvalidOrder_InvalidGap ?es_InvalidOrder_NoScore ?es_InvalidOrder_TooMany ?es_InvalidTeam_InvalidGap ?es_InvalidTeam_NoScore ?es_InvalidTeam_TooMany ?es_InvalidCount_InvalidGap ?es_InvalidCount_NoScore ?es_InvalidCount_TooMany ?es_InvalidNumber_InvalidGap ?es_InvalidNumber_NoScore ?es_InvalidNumber_TooMany ?es_InvalidGap_InvalidGap ?es_InvalidGap_NoScore ?es_InvalidGap_TooMany ?es_NoScore_InvalidGap ?es_NoScore_NoScore ?es_NoScore_TooMany ?es_TooMany_InvalidGap ?es_TooMany_NoScore ?es_TooMany_TooMany ?zz_abs ?zz_all ?zz_bool ?zz_enumerate ?zz_int ?zz_isinstance ?zz_len ?zz_list ?zz_max ?zz_min ?zz_range ?zz_str ?zz_sum ?cc_MOST_COUNT ?cc_MOST_RUNNERS ?cc_TEAMS
    (case a0 => k_is)
    (case l0 => k_is)
    (case c0 => k_is)
    (case k0 => k_is)
    (case a1 => k_is)
    (case l1 => k_is)
    (case c1 => k_is)
    (case k1 => k_is)
    (case a2 => k_is)
    (case l2 => k_is)
    (case c2 => k_is)
    (case k2 => k_is)
    (case a3 => k_is)
    (case l3 => k_is)
    (case c3 => k_is)
    (case k3 => k_is)
    (case a4 => k_is)
    (case l4 => k_is)
    (case c4 => k_is)
    (case k4 => k_is)
    (case a5 => k_is)
    (case l5 => k_is)
    (case c5 => k_is)
    (case k5 => k_is)
    (case a6 => k_is)
    (case l6 => k_is)
    (case c6 => k_is)
    (case k6 => k_is)
    (case a7 => k_is)
    (case l7 => k_is)
    (case c7 => k_is)
    (case k7 => k_is)
    (case a8 => k_is)
    (case l8 => k_is)
    (case c8 => k_is)
    (case k8 => k_is)
    (case a9 => k_is)
    (case l9 => k_is)
    (case c9 => k_is)
    (case k9 => k_is)
    (case a10 => k_is)
    (case l10 => k_is)
    (case c10 => k_is)
    (case k10 => k_is)
    (case a11 => k_is)
    (case l11 => k_is)
    (case c11 => k_is)
    (case k11 => k_is)
    (case a12 => k_is)
    (case l12 => k_is)
    (case c12 => k_is)
    (case k12 => k_is)
    (case a13 => k_is)
    (case l13 => k_is)
    (case c13 => k_is)
    (case k13 => k_is)
    (case a14 => k_is)
    (case l14 => k_is)
    (case c14 => k_is)
    (case k14 => k_is)
    (case a15 => k_is)
    (case l15 => k_is)
    (case c15 => k_is)
    (case k15 => k_is)
    (case a16 => k_is)
    (case l16 => k_is)
    (case c16 => k_is)
    (case k16 => k_is)
    (case a17 => k_is)
    (case l17 => k_is)
    (case c17 => k_is)
    (case k17 => k_is)
    (case a18 => k_is)
    (case l18 => k_is)
    (case c18 => k_is)
    (case k18 => k_is)
    (case a19 => k_is)
    (case l19 => k_is)
    (case c19 => k_is)
    (case k19 => k_is)
    (case a20 => k_is)
    (case l20 => k_is)
    (case c20 => k_is)
    (case k20 => k_is)
    (case a21 => k_is)
    (case l21 => k_is)
    (case c21 => k_is)
    (case k21 => k_is)
    (case a22 => k_is)
    (case l22 => k_is)
    (case c22 => k_is)
    (case k22 => k_is)
    (case a23 => k_is)
    (case l23 => k_is)
    (case c23 => k_is)
    (case k23 => k_is)
    (case a24 => k_is)
    (case l24 => k_is)
    (case c24 => k_is)
    (case k24 => k_is)
    (case a25 => k_is)
    (case l25 => k_is)
    (case c25 => k_is)
    (case k25 => k_is)
    (case a26 => k_is)
    (case l26 => k_is)
    (case c26 => k_is)
    (case k26 => k_is)
    (case a27 => k_is)
    (case l27 => k_is)
    (case c27 => k_is)
    (case k27 => k_is)
    (case a28 => k_is)
    (case l28 => k_is)
    (case c28 => k_is)
    (case k28 => k_is)
    (case td_law => rfl)
    (case tl_law => k_is)
    (case tv_law => rfl)
    (case tp_law => first | kernel_rfl | rfl)
    (case tz__law_refuses => k_is)
    (case tz__law_call => k_is)
    (case tz__law_order_calls => k_is)
    (case tz__law_team_calls => k_is)
    (case tz__law_count_calls => k_is)
    (case tz__law_others_right => k_is)
    (case ea_InvalidOrder => k_is)
    (case ex_InvalidOrder => k_exc)
    (case ek_InvalidOrder => k_is)
    (case eb_InvalidOrder => k_is)
    (case et_InvalidOrder => k_is)
    (case ei_InvalidOrder => k_is)
    (case ea_InvalidTeam => k_is)
    (case ex_InvalidTeam => k_exc)
    (case ek_InvalidTeam => k_is)
    (case eb_InvalidTeam => k_is)
    (case et_InvalidTeam => k_is)
    (case ei_InvalidTeam => k_is)
    (case ea_InvalidCount => k_is)
    (case ex_InvalidCount => k_exc)
    (case ek_InvalidCount => k_is)
    (case eb_InvalidCount => k_is)
    (case et_InvalidCount => k_is)
    (case ei_InvalidCount => k_is)
    (case ea_InvalidNumber => k_is)
    (case ex_InvalidNumber => k_exc)
    (case ek_InvalidNumber => k_is)
    (case eb_InvalidNumber => k_is)
    (case et_InvalidNumber => k_is)
    (case ei_InvalidNumber => k_is)
    (case ea_InvalidGap => k_is)
    (case ex_InvalidGap => k_exc)
    (case ek_InvalidGap => k_is)
    (case eb_InvalidGap => k_is)
    (case et_InvalidGap => k_is)
    (case ei_InvalidGap => k_is)
    (case ea_NoScore => k_is)
    (case ex_NoScore => k_exc)
    (case ek_NoScore => k_is)
    (case eb_NoScore => k_is)
    (case et_NoScore => k_is)
    (case ei_NoScore => k_is)
    (case ea_TooMany => k_is)
    (case ek_TooMany => k_is)
    (case eb_TooMany => k_is)
    (case et_TooMany => k_is)
    (case ei_TooMany => k_is)
    (case ol_TooMany => k_is)
    (case or_TooMany => rfl)
    (case osa_TooMany => k_is)
    (case oh_TooMany => k_is)
    (case oi_TooMany => k_is)
    (case ot_TooMany => k_is)
    (case oga_TooMany => k_is)
    (case ogg_TooMany => k_is)
    (case ohd_TooMany => k_is)
    (case li_TooMany => k_is)
    (case ci_TooMany => k_is)
    (case ki_TooMany => k_is)
    (case ua_TooMany => k_is)
    (case ur_TooMany => k_is)
    (case ug_TooMany => k_is)
    (case uv_TooMany => k_is)
    (case es_InvalidOrder_InvalidGap => k_is)
    (case es_InvalidOrder_NoScore => k_is)
    (case es_InvalidOrder_TooMany => k_is)
    (case es_InvalidTeam_InvalidGap => k_is)
    (case es_InvalidTeam_NoScore => k_is)
    (case es_InvalidTeam_TooMany => k_is)
    (case es_InvalidCount_InvalidGap => k_is)
    (case es_InvalidCount_NoScore => k_is)
    (case es_InvalidCount_TooMany => k_is)
    (case es_InvalidNumber_InvalidGap => k_is)
    (case es_InvalidNumber_NoScore => k_is)
    (case es_InvalidNumber_TooMany => k_is)
    (case es_InvalidGap_InvalidGap => k_is)
    (case es_InvalidGap_NoScore => k_is)
    (case es_InvalidGap_TooMany => k_is)
    (case es_NoScore_InvalidGap => k_is)
    (case es_NoScore_NoScore => k_is)
    (case es_NoScore_TooMany => k_is)
    (case es_TooMany_InvalidGap => k_is)
    (case es_TooMany_NoScore => k_is)
    (case es_TooMany_TooMany => k_is)
    (case zz_abs => k_is)
    (case zz_all => k_is)
    (case zz_bool => k_is)
    (case zz_enumerate => k_is)
    (case zz_int => k_is)
    (case zz_isinstance => k_is)
    (case zz_len => k_is)
    (case zz_list => k_is)
    (case zz_max => k_is)
    (case zz_min => k_is)
    (case zz_range => k_is)
    (case zz_str => k_is)
    (case zz_sum => k_is)
    (case cc_MOST_COUNT => k_is)
    (case cc_MOST_RUNNERS => k_is)
    (case cc_TEAMS => k_is)
    (case rc_law => first | rfl | decide +kernel)
