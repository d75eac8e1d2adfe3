import PyProof.Rows.All
import PySem.Challenge.RW_edenrow_k08_spread_rows
import HandS.Base
import HandS.Call
import HandS.List
import HandS.Comp
import HandS.Ends
import HandS.Words
import HandS.WordsList
import HandS.Exc
import HandS.TryOnly
import HandS.ExcOwn
import HandS.Style
import HandS.Deep
import KE.DataEq
import KE.DataCmp
import KE.DataIsa
import KE.SortData
import PyProof.ReprReads
import PyProof.Rows.SeqMore
import PyProof.Rows.ListMulArg
import PyProof.ReprRoads
import HandS.RaiseMore
import KE.DataMinMax
import HandS.Flow
import HandS.Iter
import HandS.Zip
import HandS.Rev
import PyProof.ReprLen
set_option Elab.async false
set_option linter.all false
set_option maxRecDepth 100000
set_option maxHeartbeats 4000000
/-! PL: a pure layer over HandS: data (PyData) in frozen heaps, results as functions of the slots' data. -/
namespace PL
open PySem PySem.Spec PyProof.Rows L2

/-! ### values that represent data -/
mutual
inductive Rep (L : Addr → HO → Prop) : V → PyData → Prop
  | non : Rep L .non .none
  | bl (b : Bool) : Rep L (.bl b) (.bool b)
  | int (i : Int) : Rep L (.int i) (.int i)
  | str (x : Str) : Rep L (.str x) (.str x)
  | lst {a : Addr} {xs : List V} {ds : List PyData} : L a (.lst xs) → RepAll L xs ds → Rep L (.ref a) (.list ds)
  | tup {a : Addr} {xs : List V} {ds : List PyData} : L a (.tup xs) → RepAll L xs ds → Rep L (.ref a) (.tuple ds)
inductive RepAll (L : Addr → HO → Prop) : List V → List PyData → Prop
  | nil : RepAll L [] []
  | cons {v : V} {vs : List V} {d : PyData} {ds : List PyData} : Rep L v d → RepAll L vs ds → RepAll L (v :: vs) (d :: ds)
end

section
variable {L L' : Addr → HO → Prop}
mutual
theorem Rep.mono (h : ∀ a o, L a o → L' a o) : ∀ {v : V} {d : PyData}, Rep L v d → Rep L' v d
  | _, _, .non => .non
  | _, _, .bl b => .bl b
  | _, _, .int i => .int i
  | _, _, .str x => .str x
  | _, _, .lst e r => .lst (h _ _ e) (RepAll.mono h r)
  | _, _, .tup e r => .tup (h _ _ e) (RepAll.mono h r)
theorem RepAll.mono (h : ∀ a o, L a o → L' a o) : ∀ {vs : List V} {ds : List PyData}, RepAll L vs ds → RepAll L' vs ds
  | _, _, .nil => .nil
  | _, _, .cons r rs => .cons (Rep.mono h r) (RepAll.mono h rs)
end
theorem RepAll.length : ∀ {vs : List V} {ds : List PyData}, RepAll L vs ds → vs.length = ds.length
  | _, _, .nil => rfl
  | _, _, .cons _ rs => congrArg (· + 1) rs.length
theorem RepAll.at : ∀ {vs : List V} {ds : List PyData} {i : Nat} {d : PyData}, RepAll L vs ds → ds[i]? = some d → ∃ v, vs[i]? = some v ∧ Rep L v d
  | _, _, _, _, .nil, h => by simp at h
  | _, _, 0, _, .cons r _, h => by simp at h; subst h; exact ⟨_, rfl, r⟩
  | _, _, i + 1, _, .cons _ rs, h => by simpa using RepAll.at (i := i) rs (by simpa using h)
theorem RepAll.at' : ∀ {vs : List V} {ds : List PyData} {i : Nat} {v : V}, RepAll L vs ds → vs[i]? = some v → ∃ d, ds[i]? = some d ∧ Rep L v d
  | _, _, _, _, .nil, h => by simp at h
  | _, _, 0, _, .cons r _, h => by simp at h; subst h; exact ⟨_, rfl, r⟩
  | _, _, i + 1, _, .cons _ rs, h => by simpa using RepAll.at' (i := i) rs (by simpa using h)
theorem RepAll.append : ∀ {vs ws : List V} {ds es : List PyData}, RepAll L vs ds → RepAll L ws es → RepAll L (vs ++ ws) (ds ++ es)
  | _, _, _, _, .nil, r => r
  | _, _, _, _, .cons r rs, q => .cons r (RepAll.append rs q)
theorem RepAll.take : ∀ {vs : List V} {ds : List PyData} (n : Nat), RepAll L vs ds → RepAll L (vs.take n) (ds.take n)
  | _, _, 0, _ => .nil
  | _, _, _ + 1, .nil => .nil
  | _, _, n + 1, .cons r rs => .cons r (RepAll.take n rs)
theorem RepAll.drop : ∀ {vs : List V} {ds : List PyData} (n : Nat), RepAll L vs ds → RepAll L (vs.drop n) (ds.drop n)
  | _, _, 0, r => r
  | _, _, _ + 1, .nil => .nil
  | _, _, n + 1, .cons _ rs => RepAll.drop n rs
theorem RepAll.reverse {vs : List V} {ds : List PyData} (r : RepAll L vs ds) : RepAll L vs.reverse ds.reverse := by
  induction ds generalizing vs with
  | nil => cases r; exact .nil
  | cons d ds ih =>
    cases r with
    | cons r rs => rw [List.reverse_cons, List.reverse_cons]; exact (ih rs).append (.cons r .nil)
theorem RepAll.set {v : V} {d : PyData} (r : Rep L v d) : ∀ {vs : List V} {ds : List PyData} (i : Nat), RepAll L vs ds → RepAll L (vs.set i v) (ds.set i d)
  | _, _, _, .nil => .nil
  | _, _, 0, .cons _ rs => .cons r rs
  | _, _, i + 1, .cons q rs => .cons q (RepAll.set r i rs)
theorem RepAll.rep {vs : List V} {ds : List PyData} (r : RepAll L vs ds) : ∀ k : Nat, RepAll L (List.replicate k vs).flatten (List.replicate k ds).flatten
  | 0 => .nil
  | k + 1 => by rw [List.replicate_succ, List.replicate_succ, List.flatten_cons, List.flatten_cons]; exact r.append (RepAll.rep r k)
theorem RepAll.dropLast {vs : List V} {ds : List PyData} (r : RepAll L vs ds) : RepAll L vs.dropLast ds.dropLast := by
  rw [List.dropLast_eq_take, List.dropLast_eq_take, r.length]; exact r.take _
theorem RepAll.ints (L : Addr → HO → Prop) : ∀ ns : List Int, RepAll L (ns.map V.int) (ns.map PyData.int)
  | [] => .nil
  | n :: ns => .cons (.int n) (RepAll.ints L ns)
theorem RepAll.of_ints : ∀ {ns : List Int} {vs : List V}, RepAll L vs (ns.map PyData.int) → vs = ns.map V.int
  | [], _, .nil => rfl
  | _ :: _, _, .cons r rs => by cases r; rw [RepAll.of_ints rs]; rfl
theorem RepAll.of_bls : ∀ {ns : List Bool} {vs : List V}, RepAll L vs (ns.map PyData.bool) → vs = ns.map V.bl
  | [], _, .nil => rfl
  | _ :: _, _, .cons r rs => by cases r; rw [RepAll.of_bls rs]; rfl
theorem Rep.intV {v : V} {i : Int} (r : Rep L v (.int i)) : v = .int i := by cases r; rfl
theorem Rep.blV {v : V} {i : Bool} (r : Rep L v (.bool i)) : v = .bl i := by cases r; rfl
theorem Rep.strV {v : V} {i : Str} (r : Rep L v (.str i)) : v = .str i := by cases r; rfl
theorem Rep.nonV {v : V} (r : Rep L v .none) : v = .non := by cases r; rfl
theorem Rep.lstV {v : V} {ds : List PyData} (r : Rep L v (.list ds)) : ∃ a xs, v = .ref a ∧ L a (.lst xs) ∧ RepAll L xs ds := by cases r with | lst e r => exact ⟨_, _, rfl, e, r⟩
theorem Rep.tupV {v : V} {ds : List PyData} (r : Rep L v (.tuple ds)) : ∃ a xs, v = .ref a ∧ L a (.tup xs) ∧ RepAll L xs ds := by cases r with | tup e r => exact ⟨_, _, rfl, e, r⟩
end

/-! ### where it is read -/
def LH (K : PySem.W.Frag) (H : Hp) (a : Addr) : HO → Prop
  | .lst xs => SqL K H a xs
  | .tup xs => SqT K H a xs
  | o => H a = some o
def LN (N : Hp) (a : Addr) (o : HO) : Prop := N a = some o
theorem Same.sqt {K : PySem.W.Frag} {H H' : Hp} {a : Addr} {xs : List V} (e : Same H H') (h : SqT K H a xs) : SqT K H' a xs := by
  rcases h with (h | ⟨o, h⟩) | h
  · exact .inl (.inl (e _ _ h))
  · exact .inl (.inr ⟨o, e _ _ h⟩)
  · exact .inr h
theorem LH.mono {K : PySem.W.Frag} {H H' : Hp} (e : Same H H') : ∀ a o, LH K H a o → LH K H' a o := fun a o h => by
  cases o <;> first | exact Same.seq e h | exact Same.sqt e h | exact e _ _ h
theorem LN.mono {N N' : Hp} (e : Same N N') : ∀ a o, LN N a o → LN N' a o := fun a o h => e a o h
theorem LN.toH {K : PySem.W.Frag} {N H : Hp} (e : Same N H) : ∀ a o, LN N a o → LH K H a o := fun a o h => by
  have h' : H a = some o := e _ _ h
  cases o <;> first | exact SqL.of h' | exact SqT.of h' | exact h'
/-- the part of B that is new over H0 -/
def nw (H0 B : Hp) : Hp := fun a => match H0 a with | none => B a | some _ => none
theorem nw_some {H0 B : Hp} {a : Addr} {o : HO} (h : nw H0 B a = some o) : H0 a = none ∧ B a = some o := by
  unfold nw at h; split at h
  · exact ⟨by assumption, h⟩
  · cases h
theorem nw_of {H0 B : Hp} {a : Addr} {o : HO} (h0 : H0 a = none) (h : B a = some o) : nw H0 B a = some o := by
  unfold nw; rw [h0]; exact h
theorem nw_same {H0 B : Hp} : Same (nw H0 B) B := fun _ _ h => (nw_some h).2
theorem nw_mono {H0 B B' : Hp} (e : Same B B') : Same (nw H0 B) (nw H0 B') := fun _ _ h => nw_of (nw_some h).1 (e _ _ (nw_some h).2)
/-- a def's entry: the heap, its part that is frozen -/
structure En where
  H : Hp
  B : Hp
def LF (K : PySem.W.Frag) (H0 : En) (B : Hp) : Bool → Addr → HO → Prop
  | true => LN (nw H0.H B)
  | false => LH K B
section
variable {K : PySem.W.Frag} {H0 : En} {B B' H : Hp} {fr : Bool} {v : V} {d : PyData} {vs : List V} {ds : List PyData}
theorem LF.mono (e : Same B B') : ∀ a o, LF K H0 B fr a o → LF K H0 B' fr a o := fun a o h => by
  cases fr with
  | true => exact nw_mono e a o h
  | false => exact LH.mono e a o h
theorem LF.toH (e : Same B H) : ∀ a o, LF K H0 B fr a o → LH K H a o := fun a o h => by
  cases fr with
  | true => exact LN.toH (fun _ _ q => e _ _ (nw_same _ _ q)) a o h
  | false => exact LH.mono e a o h
theorem LF.and1 {fr' : Bool} : ∀ a o, LF K H0 B fr a o → LF K H0 B (fr && fr') a o := fun a o h => by
  cases fr with
  | false => exact h
  | true =>
    cases fr' with
    | true => exact h
    | false => exact LN.toH nw_same a o h
theorem LF.and2 {fr' : Bool} : ∀ a o, LF K H0 B fr a o → LF K H0 B (fr' && fr) a o := fun a o h => by
  rw [Bool.and_comm]; exact LF.and1 a o h
end

/-! ### scalars -/
def scal : PyData → Bool
  | .none => true
  | .bool _ => true
  | .int _ => true
  | .str _ => true
  | _ => false
theorem Rep.scal {L L' : Addr → HO → Prop} {v : V} {d : PyData} (r : Rep L v d) (h : PL.scal d = true) : Rep L' v d := by
  cases r with
  | non => exact .non
  | bl b => exact .bl b
  | int i => exact .int i
  | str x => exact .str x
  | lst _ _ => cases h
  | tup _ _ => cases h
def vOf : PyData → V
  | .none => .non
  | .bool b => .bl b
  | .int i => .int i
  | .str x => .str x
  | _ => .non
theorem Rep.vOf {L : Addr → HO → Prop} {d : PyData} (h : PL.scal d = true) : Rep L (PL.vOf d) d := by
  cases d with
  | none => exact .non
  | bool b => exact .bl b
  | int i => exact .int i
  | str x => exact .str x
  | list _ => cases h
  | tuple _ => cases h
  | dict _ => cases h

/-! ### what a slot, a result holds -/
inductive Sl where
  | und
  | val (fr : Bool) (d : PyData)
  | own (fr : Bool) (ds : List PyData)
  | full (d : PyData)
  | bor (fr : Bool) (ds : List PyData)
  | brf (d : PyData)
inductive Rs where
  | ok (s : Sl)
  | ex (nm : Str)
abbrev Ev := List Sl
abbrev EF := Ev → Option Rs
def mkv (fr : Bool) (d : PyData) : Sl := .val (fr || scal d) d
def frz : Sl → Sl
  | .own fr ds => .val fr (.list ds)
  | .full d => .val true d
  | s => s
/-- the data of a frozen or borrowed result -/
def dat : Sl → Option PyData
  | .val _ d => some d
  | .bor _ ds => some (.list ds)
  | .brf d => some d
  | _ => none
def bz (r : Option Rs) (k : Sl → Option Rs) : Option Rs :=
  match r with
  | some (.ok s) => k (frz s)
  | some (.ex n) => some (.ex n)
  | none => none

def emp : Hp := fun _ => none
structure Nx (B H B' H' : Hp) : Prop where
  b : Same B B'
  bh : Same B' H'
  h : Same H H'
  no : ∀ a, B a = none → H a ≠ none → B' a = none
theorem Nx.refl {B H : Hp} (e : Same B H) : Nx B H B H := ⟨Same.refl _, e, Same.refl _, fun _ h _ => h⟩
theorem Nx.trans {B H B1 H1 B2 H2 : Hp} (a : Nx B H B1 H1) (b : Nx B1 H1 B2 H2) : Nx B H B2 H2 :=
  ⟨a.b.trans b.b, b.bh, a.h.trans b.h, fun c h1 h2 => b.no c (a.no c h1 h2) (fun z => by
    cases q : H c with
    | none => exact h2 q
    | some o => rw [a.h c o q] at z; cases z)⟩
theorem Same.ne {H H' : Hp} (e : Same H H') {a : Addr} (h : H a ≠ none) : H' a ≠ none := fun z => by
  cases q : H a with
  | none => exact h q
  | some o => rw [e a o q] at z; cases z
theorem Same.none {H H' : Hp} (e : Same H H') {a : Addr} (h : H' a = none) : H a = none := e.free h
theorem same_upd {H : Hp} {p : Addr} {o : HO} (h : H p = none) : Same H (upd H p o) := fun b x e => by
  rw [upd_ne (ne_of_none e h)]; exact e
theorem same_upd2 {B H : Hp} {p : Addr} {o : HO} (e : Same B H) (h : H p = some o) : Same (upd B p o) H := fun b x q => by
  by_cases hb : b = p
  · subst hb; rw [upd_same] at q; cases q; exact h
  · rw [upd_ne hb] at q; exact e _ _ q
theorem upd_none {H : Hp} {p a : Addr} {o : HO} (h : upd H p o a = none) : H a = none ∧ a ≠ p := by
  by_cases hb : a = p
  · subst hb; rw [upd_same] at h; cases h
  · rw [upd_ne hb] at h; exact ⟨h, hb⟩
/-- a temporary's own cells -/
structure TF (H B' H' T : Hp) : Prop where
  s : Same T H'
  n : ∀ a, T a ≠ none → H a = none ∧ B' a = none
theorem TF.emp {H B' H' : Hp} : TF H B' H' emp := ⟨fun _ _ h => (nomatch h), fun _ h => absurd rfl h⟩

/-- results -/
def RR (K : PySem.W.Frag) (H0 : En) (B H T : Hp) (v : V) : Sl → Prop
  | .und => False
  | .val fr d => Rep (LF K H0 B fr) v d
  | .own fr ds => ∃ p vs, v = .ref p ∧ T p = some (.lst vs) ∧ RepAll (LF K H0 B fr) vs ds
  | .full d => Rep (LN T) v d
  | .bor fr ds => ∃ p vs, v = .ref p ∧ H p = some (.lst vs) ∧ RepAll (LF K H0 B fr) vs ds
  | .brf d => Rep (LN H) v d
/-- frozen or borrowed -/
def RZ (K : PySem.W.Frag) (H0 : En) (B H : Hp) (v : V) : Sl → Prop
  | .val fr d => Rep (LF K H0 B fr) v d
  | .bor fr ds => ∃ p vs, v = .ref p ∧ H p = some (.lst vs) ∧ RepAll (LF K H0 B fr) vs ds
  | .brf d => Rep (LN H) v d
  | _ => False
def KQ (K : PySem.W.Frag) (H0 : En) (B H : Hp) (s : Sl) (Q : VK) : Prop := ∀ v B' H' T, Nx B H B' H' → TF H B' H' T → RR K H0 B' H' T v s → Q v H'
def KZ (K : PySem.W.Frag) (H0 : En) (B H : Hp) (s : Sl) (Q : VK) : Prop := ∀ v B' H', Nx B H B' H' → RZ K H0 B' H' v s → Q v H'
theorem RZ.data {K : PySem.W.Frag} {H0 : En} {B H : Hp} {v : V} {s : Sl} {d : PyData} (e : Same B H) (r : RZ K H0 B H v s) (h : dat s = some d) : Rep (LH K H) v d := by
  cases s with
  | und => cases h
  | own fr ds => cases h
  | full d => cases h
  | val fr d' => cases h; exact Rep.mono (LF.toH e) r
  | bor fr ds =>
    cases h
    obtain ⟨p, vs, rfl, h1, h2⟩ := r
    exact .lst (SqL.of h1) (h2.mono (LF.toH e))
  | brf d' => cases h; exact Rep.mono (LN.toH (Same.refl _)) r
theorem RZ.mono {K : PySem.W.Frag} {H0 : En} {B H B' H' : Hp} {v : V} {s : Sl} (n : Nx B H B' H') (r : RZ K H0 B H v s) : RZ K H0 B' H' v s := by
  cases s with
  | und => exact r
  | own fr ds => exact r
  | full d => exact r
  | val fr d => exact Rep.mono (LF.mono n.b) r
  | bor fr ds =>
    obtain ⟨p, vs, e, h1, h2⟩ := r
    exact ⟨p, vs, e, n.h _ _ h1, h2.mono (LF.mono n.b)⟩
  | brf d => exact Rep.mono (LN.mono n.h) r
end PL

/-! PL2: environments, the judgement of expressions, names, constants, operators. -/
namespace PL
open PySem PySem.Spec PyProof.Rows L2

/-! ### environments -/
def SR (K : PySem.W.Frag) (H0 : En) (B N : Hp) (o : Option (Option V)) : Sl → Prop
  | .und => True
  | .val fr d => ∃ v, o = some (some v) ∧ Rep (LF K H0 B fr) v d
  | .own fr ds => ∃ p vs, o = some (some (.ref p)) ∧ N p = some (.lst vs) ∧ RepAll (LF K H0 B fr) vs ds
  | .full d => ∃ v, o = some (some v) ∧ Rep (LN N) v d
  | _ => False
theorem SR.mono {K : PySem.W.Frag} {H0 : En} {B B' N : Hp} {o : Option (Option V)} {s : Sl} (e : Same B B') (h : SR K H0 B N o s) : SR K H0 B' N o s := by
  cases s with
  | und => trivial
  | val fr d => obtain ⟨v, h1, h2⟩ := h; exact ⟨v, h1, h2.mono (LF.mono e)⟩
  | own fr ds => obtain ⟨p, vs, h1, h2, h3⟩ := h; exact ⟨p, vs, h1, h2, h3.mono (LF.mono e)⟩
  | full d => exact h
  | bor fr ds => exact h
  | brf d => exact h
/-- F i: the cells that slot i owns -/
abbrev FF (K : PySem.W.Frag) (H0 : En) (B H : Hp) (σ : L2.St) (ρ : Ev) (F : Nat → Hp) : Prop :=
  (∀ i, Same (F i) H) ∧ (∀ i a, F i a ≠ none → B a = none ∧ H0.H a = none) ∧ (∀ i j a, i ≠ j → F i a ≠ none → F j a = none) ∧ ∀ i s, ρ[i]? = some s → SR K H0 B (F i) σ[i]? s
structure ER (K : PySem.W.Frag) (H0 : En) (B H : Hp) (σ : L2.St) (ρ : Ev) : Prop where
  e0 : Same H0.H H
  b0 : Same H0.B B
  n0 : ∀ a, H0.H a ≠ none → H0.B a = none → B a = none
  eB : Same B H
  len : σ.length = ρ.length
  ex : ∃ F : Nat → Hp, FF K H0 B H σ ρ F
section
variable {K : PySem.W.Frag} {H0 : En} {B H B' H' T : Hp} {σ : L2.St} {ρ : Ev}
theorem ER.nx (E : ER K H0 B H σ ρ) (n : Nx B H B' H') : ER K H0 B' H' σ ρ := by
  obtain ⟨F, f1, f2, f3, f4⟩ := E.ex
  refine ⟨E.e0.trans n.h, E.b0.trans n.b, fun a h1 h2 => n.no a (E.n0 a h1 h2) (PL.Same.ne E.e0 h1), n.bh, E.len, F, fun i => (f1 i).trans n.h, fun i a h => ⟨n.no a (f2 i a h).1 (PL.Same.ne (f1 i) h), (f2 i a h).2⟩, f3, fun i s h => (f4 i s h).mono n.b⟩
theorem FF.nx {F : Nat → Hp} (h : FF K H0 B H σ ρ F) (n : Nx B H B' H') : FF K H0 B' H' σ ρ F :=
  ⟨fun i => (h.1 i).trans n.h, fun i a q => ⟨n.no a (h.2.1 i a q).1 (PL.Same.ne (h.1 i) q), (h.2.1 i a q).2⟩, h.2.2.1, fun i s q => (h.2.2.2 i s q).mono n.b⟩
theorem FF.forget {F : Nat → Hp} (h : FF K H0 B H σ ρ F) {i : Nat} (o : Option V) : FF K H0 B H (σ.set i o) (ρ.set i .und) F := by
  refine ⟨h.1, h.2.1, h.2.2.1, fun j u hu => ?_⟩
  by_cases hj : j = i
  · subst hj
    have hl : j < ρ.length := by have := (List.getElem?_eq_some_iff.mp hu).1; rwa [List.length_set] at this
    rw [List.getElem?_set_self hl] at hu
    have hu' := Option.some.inj hu
    subst hu'
    trivial
  · rw [List.getElem?_set_ne (Ne.symm hj)] at hu
    rw [List.getElem?_set_ne (Ne.symm hj)]
    exact h.2.2.2 j u hu
theorem ER.nx0 (E : ER K H0 B H σ ρ) : Nx B H B H := Nx.refl E.eB
/-- may be stored -/
def stb : Sl → Bool
  | .bor _ _ => false
  | .brf _ => false
  | _ => true
/-- a slot is stored -/
theorem ER.set {i : Nat} {v : V} {s : Sl} (E : ER K H0 B H σ ρ) (n : Nx B H B' H') (t : TF H B' H' T) (r : RR K H0 B' H' T v s) (hs : stb s = true) : ER K H0 B' H' (σ.set i (some v)) (ρ.set i s) := by
  have E' := E.nx n
  obtain ⟨F, f1, f2, f3, f4⟩ := E.ex
  have tn : ∀ j a, F j a ≠ none → T a = none := fun j a h => by
    cases q : T a with
    | none => rfl
    | some o => exact absurd ((t.n a (by rw [q]; simp)).1) (PL.Same.ne (f1 j) h)
  refine ⟨E'.e0, E'.b0, E'.n0, E'.eB, by rw [List.length_set, List.length_set]; exact E.len, fun j => if j = i then T else F j, fun j => ?_, fun j a h => ?_, fun j k a hjk h => ?_, fun j u hu => ?_⟩
  · dsimp only
    split
    · exact t.s
    · exact (f1 j).trans n.h
  · dsimp only at h
    split at h
    · exact ⟨(t.n a h).2, E.e0.free (t.n a h).1⟩
    · exact ⟨n.no a (f2 j a h).1 (PL.Same.ne (f1 j) h), (f2 j a h).2⟩
  · dsimp only at h ⊢
    split at h
    · rw [if_neg (by omega)]
      cases q : F k a with
      | none => rfl
      | some o => exact absurd ((t.n a h).1) (PL.Same.ne (f1 k) (by rw [q]; simp))
    · split
      · exact tn j a h
      · exact f3 j k a hjk h
  · dsimp only
    by_cases hj : j = i
    · subst hj
      have hl : j < ρ.length := by have := (List.getElem?_eq_some_iff.mp hu).1; rwa [List.length_set] at this
      rw [List.getElem?_set_self hl] at hu
      have hu' := Option.some.inj hu
      subst hu'
      rw [if_pos rfl, List.getElem?_set_self (by rw [E.len]; exact hl)]
      cases s with
      | und => trivial
      | val fr d => exact ⟨v, rfl, r⟩
      | own fr ds => obtain ⟨p, vs, rfl, h1, h2⟩ := r; exact ⟨p, vs, rfl, h1, h2⟩
      | full d => exact ⟨v, rfl, r⟩
      | bor fr ds => cases hs
      | brf d => cases hs
    · rw [List.getElem?_set_ne (Ne.symm hj)] at hu
      rw [if_neg hj, List.getElem?_set_ne (Ne.symm hj)]
      exact (f4 j u hu).mono n.b
/-- slots are forgotten -/
theorem ER.forget {i : Nat} (E : ER K H0 B H σ ρ) (o : Option V) : ER K H0 B H (σ.set i o) (ρ.set i .und) := by
  obtain ⟨F, f1, f2, f3, f4⟩ := E.ex
  refine ⟨E.e0, E.b0, E.n0, E.eB, by rw [List.length_set, List.length_set]; exact E.len, F, f1, f2, f3, fun j u hu => ?_⟩
  by_cases hj : j = i
  · subst hj
    have hl : j < ρ.length := by have := (List.getElem?_eq_some_iff.mp hu).1; rwa [List.length_set] at this
    rw [List.getElem?_set_self hl] at hu
    cases hu
    trivial
  · rw [List.getElem?_set_ne (Ne.symm hj)] at hu
    rw [List.getElem?_set_ne (Ne.symm hj)]
    exact f4 j u hu
def wipeE (ρ : Ev) : List Nat → Ev
  | [] => ρ
  | i :: r => (wipeE ρ r).set i .und
theorem ER.wipe (E : ER K H0 B H σ ρ) : ∀ vs : List Nat, ER K H0 B H (L2.wipe σ vs) (wipeE ρ vs) := by
  intro vs
  induction vs with
  | nil => exact E
  | cons i r ih => exact ih.forget (i := i) none

theorem FF.wipe {F : Nat → Hp} (h : FF K H0 B H σ ρ F) : ∀ vs : List Nat, FF K H0 B H (L2.wipe σ vs) (wipeE ρ vs) F
  | [] => h
  | _ :: vs => (FF.wipe h vs).forget none
theorem wipeE_len (ρ : Ev) : ∀ vs : List Nat, (wipeE ρ vs).length = ρ.length
  | [] => rfl
  | _ :: vs => by unfold wipeE; rw [List.length_set, wipeE_len ρ vs]
/-! ### freezing a result -/
def un (B T : Hp) : Hp := fun a => match B a with | some o => some o | none => T a
theorem KZ.toQ {s : Sl} {Q : VK} (e0 : Same H0.H H) (eB : Same B H) (h : KZ K H0 B H (frz s) Q) : KQ K H0 B H s Q := by
  intro v B' H' T n t r
  have h0 : ∀ a, T a ≠ none → H0.H a = none := fun a q => e0.free ((t.n a q).1)
  cases s with
  | und => exact r.elim
  | val fr d => exact h v B' H' n r
  | bor fr ds => exact h v B' H' n r
  | brf d => exact h v B' H' n r
  | own fr ds =>
    obtain ⟨p, vs, rfl, hp, ra⟩ := r
    have hTp : T p ≠ none := by rw [hp]; simp
    obtain ⟨g1, g2⟩ := t.n p hTp
    have hH' : H' p = some (.lst vs) := t.s _ _ hp
    have s1 : Same B' (upd B' p (.lst vs)) := same_upd g2
    refine h (.ref p) (upd B' p (.lst vs)) H' ⟨n.b.trans s1, same_upd2 n.bh hH', n.h, fun a q1 q2 => ?_⟩ ?_
    · have : a ≠ p := fun z => by subst z; exact q2 g1
      rw [upd_ne this]; exact n.no a q1 q2
    · show Rep (LF K H0 _ fr) _ _
      refine .lst ?_ (ra.mono (LF.mono s1))
      cases fr with
      | true => exact nw_of (h0 p hTp) upd_same
      | false => exact SqL.of upd_same
  | full d =>
    have g : ∀ a o, T a = some o → B' a = none := fun a o q => (t.n a (by rw [q]; simp)).2
    have sT : Same T (un B' T) := fun a o q => by unfold un; rw [g a o q]; exact q
    have sB : Same B' (un B' T) := fun a o q => by unfold un; rw [q]
    refine h v (un B' T) H' ⟨n.b.trans sB, fun a o q => ?_, n.h, fun a q1 q2 => ?_⟩ ?_
    · unfold un at q
      cases z : B' a with
      | some u => rw [z] at q; cases q; exact n.bh _ _ z
      | none => rw [z] at q; exact t.s _ _ q
    · unfold un
      rw [n.no a q1 q2]
      cases z : T a with
      | none => rfl
      | some u => exact absurd ((t.n a (by rw [z]; simp)).1) q2
    · show Rep (LF K H0 _ true) _ _
      exact Rep.mono (fun a o q => nw_of (h0 a (by rw [show T a = some o from q]; simp)) (sT a o q)) r
end

/-! ### the judgement -/
def KX (mg : Str → Option Value) (B H : Hp) (σ : L2.St) (W : WX) (n : Str) : Prop := ∀ c B' H', mg n = some c → Nx B H B' H' → W c none σ H'
theorem KX.nx {mg : Str → Option Value} {B H B' H' : Hp} {σ : L2.St} {W : WX} {n : Str} (h : KX mg B H σ W n) (x : Nx B H B' H') : KX mg B' H' σ W n := fun c B2 H2 hc y => h c B2 H2 hc (x.trans y)
/-- the outcome o, wanted by Q or by W -/
def OK (K : PySem.W.Frag) (mg : Str → Option Value) (H0 : En) (W : WX) (B H : Hp) (σ : L2.St) (o : Option Rs) (Q : VK) : Prop :=
  (∃ s, o = some (.ok s) ∧ KQ K H0 B H s Q) ∨ ∃ n, o = some (.ex n) ∧ KX mg B H σ W n
def OKZ (K : PySem.W.Frag) (mg : Str → Option Value) (H0 : En) (W : WX) (B H : Hp) (σ : L2.St) (o : Option Rs) (Q : VK) : Prop :=
  (∃ s, o = some (.ok s) ∧ KZ K H0 B H (frz s) Q) ∨ ∃ n, o = some (.ex n) ∧ KX mg B H σ W n
def tP (K : PySem.W.Frag) (mg : Str → Option Value) (H0 : En) (W : WX) (f : EF) : TE := fun σ H Q =>
  ∃ B ρ, ER K H0 B H σ ρ ∧ OK K mg H0 W B H σ (f ρ) Q
def tZ (K : PySem.W.Frag) (mg : Str → Option Value) (H0 : En) (W : WX) (f : EF) : TE := fun σ H Q =>
  ∃ B ρ, ER K H0 B H σ ρ ∧ OKZ K mg H0 W B H σ (f ρ) Q
/-- e is f, over the entry's heap H0; what it raises is taken by W -/
structure PD (X : Cx) (H0 : En) (W : WX) (e : Expr) (f : EF) : Prop where
  pe : PE X e (tP X.K X.mg H0 W f)
theorem peWeak {X : Cx} {e : Expr} {t t' : TE} (h : PE X e t) (i : ∀ σ H Q, t' σ H Q → t σ H Q) : PE X e t' := ⟨fun pins s σ H Q I q => h.run pins s σ H Q I (i σ H Q q)⟩
theorem ptWeak {X : Cx} {e : Expr} {t t' : TT} (h : PT X e t) (i : ∀ σ H Q, t' σ H Q → t σ H Q) : PT X e t' := ⟨fun pins s σ H Q I q => h.run pins s σ H Q I (i σ H Q q)⟩
theorem paWeak {X : Cx} {e : List Expr} {t t' : TA} (h : PA X e t) (i : ∀ σ H Q, t' σ H Q → t σ H Q) : PA X e t' := ⟨fun pos pins s σ H Q I q => h.run pos pins s σ H Q I (i σ H Q q)⟩
theorem psWeak {X : Cx} {e : Stmt} {t t' : TS} (h : PS X e t) (i : ∀ D σ H, t' D σ H → t D σ H) : PS X e t' := ⟨fun pins s σ H D I q => h.run pins s σ H D I (i D σ H q)⟩
theorem pssWeak {X : Cx} {e : List Stmt} {t t' : TS} (h : PSs X e t) (i : ∀ D σ H, t' D σ H → t D σ H) : PSs X e t' := ⟨fun pins s σ H D I q => h.run pins s σ H D I (i D σ H q)⟩
theorem piWeak {X : Cx} {tg e : Expr} {t t' : TI} (h : PI X tg e t) (i : ∀ σ H R, t' σ H R → t σ H R) : PI X tg e t' := ⟨fun pins s σ H R I q => h.run pins s σ H R I (i σ H R q)⟩
section
variable {X : Cx} {H0 : En} {W : WX} {e a b c : Expr} {f g k : EF}
theorem PD.z (h : PD X H0 W e f) : PE X e (tZ X.K X.mg H0 W f) := peWeak h.pe fun σ H Q ⟨B, ρ, E, r⟩ => ⟨B, ρ, E, by
  rcases r with ⟨s, h1, h2⟩ | ⟨n, h1, h2⟩
  · exact .inl ⟨s, h1, h2.toQ E.e0 E.eB⟩
  · exact .inr ⟨n, h1, h2⟩⟩

/-! ### results in short -/
variable {K : PySem.W.Frag} {B H B' H' : Hp} {Q : VK} {σ : L2.St} {ρ : Ev}
theorem KQ.nx {s : Sl} (h : KQ K H0 B H s Q) (n : Nx B H B' H') : KQ K H0 B' H' s Q := fun v B2 H2 T n2 t r => h v B2 H2 T (n.trans n2) ⟨t.s, fun a q => ⟨n.h.free (t.n a q).1, (t.n a q).2⟩⟩ r
theorem KQ.same {v : V} {s : Sl} (h : KQ K H0 B H s Q) (e : Same B H) (r : RR K H0 B H emp v s) : Q v H := h v B H emp (Nx.refl e) TF.emp r
theorem KQ.int {i : Int} {fr : Bool} (h : KQ K H0 B H (.val fr (.int i)) Q) (e : Same B H) : Q (.int i) H := h.same e (.int i)
theorem KQ.bl {i : Bool} {fr : Bool} (h : KQ K H0 B H (.val fr (.bool i)) Q) (e : Same B H) : Q (.bl i) H := h.same e (.bl i)
theorem KQ.str {i : Str} {fr : Bool} (h : KQ K H0 B H (.val fr (.str i)) Q) (e : Same B H) : Q (.str i) H := h.same e (.str i)
theorem KQ.non {fr : Bool} (h : KQ K H0 B H (.val fr .none) Q) (e : Same B H) : Q .non H := h.same e .non
theorem KQ.new {fr : Bool} {ds : List PyData} {vs : List V} {p : Addr} (h : KQ K H0 B H (.own fr ds) Q) (e : Same B H) (r : RepAll (LF K H0 B fr) vs ds) (hp : H p = none) : Q (.ref p) (upd H p (.lst vs)) := by
  refine h (.ref p) B _ (fun a => if a = p then some (.lst vs) else none) ⟨Same.refl _, e.trans (same_upd hp), same_upd hp, fun _ q _ => q⟩ ⟨fun a o q => ?_, fun a q => ?_⟩ ⟨p, vs, rfl, if_pos rfl, r⟩
  · split at q
    · rename_i z; subst z; cases q; exact upd_same
    · cases q
  · split at q
    · rename_i z; subst z; exact ⟨hp, e.free hp⟩
    · exact absurd rfl q
theorem KQ.tup {fr : Bool} {ds : List PyData} {vs : List V} {p : Addr} (h : KQ K H0 B H (.val fr (.tuple ds)) Q) (e0 : Same H0.H H) (e : Same B H) (r : RepAll (LF K H0 B fr) vs ds) (hp : H p = none) : Q (.ref p) (upd H p (.tup vs)) := by
  have hB : B p = none := e.free hp
  have s1 : Same B (upd B p (.tup vs)) := same_upd hB
  refine h (.ref p) (upd B p (.tup vs)) _ emp ⟨s1, same_upd2 (e.trans (same_upd hp)) upd_same, same_upd hp, fun a q1 q2 => ?_⟩ TF.emp ?_
  · rw [upd_ne (fun z => by subst z; exact q2 hp)]; exact q1
  · show Rep (LF K H0 _ fr) _ _
    refine .tup ?_ (r.mono (LF.mono s1))
    cases fr with
    | true => exact nw_of (e0.free hp) upd_same
    | false => exact SqT.of upd_same

/-! ### names, constants -/
def eVar (i : Nat) : EF := fun ρ =>
  match ρ[i]? with
  | some (.val fr d) => some (.ok (.val fr d))
  | some (.own fr ds) => some (.ok (.bor fr ds))
  | some (.full d) => some (.ok (.brf d))
  | _ => none
theorem pdVar {i : Nat} (h : PE X e (tVar i)) : PD X H0 W e (eVar i) := ⟨peWeak h fun σ H Q ⟨B, ρ, E, r⟩ => by
  obtain ⟨F, f1, f2, f3, f4⟩ := E.ex
  rcases r with ⟨s, h1, h2⟩ | ⟨n, h1, h2⟩
  · unfold eVar at h1
    split at h1
    · rename_i fr d hr
      cases h1
      obtain ⟨v, e1, r1⟩ := f4 i _ hr
      exact ⟨v, e1, h2.same E.eB r1⟩
    · rename_i fr ds hr
      cases h1
      obtain ⟨p, vs, e1, e2, r1⟩ := f4 i _ hr
      exact ⟨_, e1, h2.same E.eB ⟨p, vs, rfl, f1 i _ _ e2, r1⟩⟩
    · rename_i d hr
      cases h1
      obtain ⟨v, e1, r1⟩ := f4 i _ hr
      exact ⟨v, e1, h2.same E.eB (Rep.mono (LN.mono (f1 i)) r1)⟩
    · cases h1
  · unfold eVar at h1
    split at h1 <;> cases h1⟩
def eC (d : PyData) : EF := fun _ => some (.ok (.val true d))
theorem pdC {v : V} {d : PyData} (h : PE X e (tC v)) (r : ∀ L, Rep L v d) : PD X H0 W e (eC d) := ⟨peWeak h fun σ H Q ⟨B, ρ, E, q⟩ => by
  rcases q with ⟨s, h1, h2⟩ | ⟨n, h1, h2⟩
  · cases h1
    exact h2.same E.eB (r _)
  · cases h1⟩
theorem pdInt {i : Int} {j pos} : PD X H0 W (.Constant (.int i) j pos) (eC (.int i)) := pdC pe_int fun _ => .int i
theorem pdBl {i : Bool} {j pos} : PD X H0 W (.Constant (.bool i) j pos) (eC (.bool i)) := pdC pe_bl fun _ => .bl i
theorem pdStr {i : Str} {j pos} : PD X H0 W (.Constant (.str i) j pos) (eC (.str i)) := pdC pe_str fun _ => .str i
theorem pdNon {j pos} : PD X H0 W (.Constant .none j pos) (eC .none) := pdC pe_non fun _ => .non

/-! ### operators -/
def Op2 (X : Cx) (H0 : En) (r : R2) (f : Sl → Sl → Option Sl) : Prop := ∀ (B H : Hp) (x y : Sl) (v w : V) (s : Sl) (Q : VK), Same H0.H H → Same B H → RZ X.K H0 B H v x → RZ X.K H0 B H w y → f x y = some s → KQ X.K H0 B H s Q → r v w H Q
def okO (o : Option Sl) : Option Rs := o.map .ok
def e2 (f : Sl → Sl → Option Sl) (a b : EF) : EF := fun ρ => bz (a ρ) fun x => bz (b ρ) fun y => okO (f x y)
theorem okO_ok {o : Option Sl} {s : Sl} (h : okO o = some (.ok s)) : o = some s := by
  cases o with
  | none => cases h
  | some u => cases h; rfl
theorem okO_ex {o : Option Sl} {n : Str} (h : okO o = some (.ex n)) : False := by
  cases o with
  | none => cases h
  | some u => cases h
theorem KQ.nx' {s : Sl} (h : KQ K H0 B H s Q) (n : Nx B H B' H') : KQ K H0 B' H' s Q := h.nx n
theorem OK.nx {mg : Str → Option Value} {o : Option Rs} (h : OK K mg H0 W B H σ o Q) (n : Nx B H B' H') : OK K mg H0 W B' H' σ o Q := by
  rcases h with ⟨s, h1, h2⟩ | ⟨m, h1, h2⟩
  · exact .inl ⟨s, h1, h2.nx n⟩
  · exact .inr ⟨m, h1, h2.nx n⟩
/-- the operand is run, then what follows -/
theorem OK.bz {mg : Str → Option Value} {r : Option Rs} {k : Sl → Option Rs} {R : VK} (h : OK K mg H0 W B H σ (PL.bz r k) Q)
    (c : ∀ (x : Sl) (v : V) (B' H' : Hp), Nx B H B' H' → RZ K H0 B' H' v x → OK K mg H0 W B' H' σ (k x) Q → R v H') : OKZ K mg H0 W B H σ r R := by
  cases r with
  | none => rcases h with ⟨s, h1, h2⟩ | ⟨m, h1, h2⟩ <;> cases h1
  | some o =>
    cases o with
    | ok x => exact .inl ⟨x, rfl, fun v B' H' n rz => c (frz x) v B' H' n rz (OK.nx h n)⟩
    | ex m =>
      rcases h with ⟨s, h1, h2⟩ | ⟨m', h1, h2⟩
      · cases h1
      · cases h1; exact .inr ⟨m, rfl, h2⟩
theorem OK.okO {mg : Str → Option Value} {o : Option Sl} (h : OK K mg H0 W B H σ (PL.okO o) Q) : ∃ s, o = some s ∧ KQ K H0 B H s Q := by
  rcases h with ⟨s, h1, h2⟩ | ⟨m, h1, h2⟩
  · exact ⟨s, okO_ok h1, h2⟩
  · exact (okO_ex h1).elim
/-- two operands -/
theorem pd2 {r : R2} {F : Sl → Sl → Option Sl} (ha : PD X H0 W a f) (hb : PD X H0 W b g) (ho : Op2 X H0 r F) (hp : ∀ {ta tb : TE}, PE X a ta → PE X b tb → PE X e (tOp r ta tb)) : PD X H0 W e (e2 F f g) := ⟨peWeak (hp ha.z hb.z) fun σ H Q ⟨B, ρ, E, q⟩ => by
  refine ⟨B, ρ, E, OK.bz q fun x v B1 H1 n1 r1 q1 => ?_⟩
  have E1 := E.nx n1
  refine ⟨B1, ρ, E1, OK.bz q1 fun y w B2 H2 n2 r2 q2 => ?_⟩
  have E2 := E1.nx n2
  obtain ⟨s, h1, h2⟩ := OK.okO q2
  exact ho B2 H2 x y v w s Q E2.e0 E2.eB (r1.mono n2) r2 h1 h2⟩
/-- one operand -/
def Op1 (X : Cx) (H0 : En) (r : V → Hp → VK → Prop) (f : Sl → Option Sl) : Prop := ∀ (B H : Hp) (x : Sl) (v : V) (s : Sl) (Q : VK), Same H0.H H → Same B H → RZ X.K H0 B H v x → f x = some s → KQ X.K H0 B H s Q → r v H Q
def e1 (f : Sl → Option Sl) (a : EF) : EF := fun ρ => PL.bz (a ρ) fun x => PL.okO (f x)
theorem pd1 {r : V → Hp → VK → Prop} {F : Sl → Option Sl} (ha : PD X H0 W a f) (ho : Op1 X H0 r F) (hp : ∀ {ta : TE}, PE X a ta → PE X e (tUn r ta)) : PD X H0 W e (e1 F f) := ⟨peWeak (hp ha.z) fun σ H Q ⟨B, ρ, E, q⟩ => by
  refine ⟨B, ρ, E, OK.bz q fun x v B1 H1 n1 r1 q1 => ?_⟩
  have E1 := E.nx n1
  obtain ⟨s, h1, h2⟩ := OK.okO q1
  exact ho B1 H1 x v s Q E1.e0 E1.eB r1 h1 h2⟩
end
end PL

/-! PL3: operators on data, truth, tests. -/
namespace PL
open PySem PySem.Spec PyProof.Rows L2

/-! ### data in the model's heap -/
section
variable {X : Cx} {pins : List (Addr × Obj)} {σ : L2.St} {H : Hp} {s : Shared}
mutual
theorem Rep.dp {K : PySem.W.Frag} {H : Hp} : ∀ {v : V} {d : PyData}, Rep (LH K H) v d → Dp K H v d
  | _, _, .non => .non
  | _, _, .bl b => .bl b
  | _, _, .int i => .int i
  | _, _, .str x => .str x
  | _, _, .lst e r => .lst e (RepAll.dp r)
  | _, _, .tup e r => .tup e (RepAll.dp r)
theorem RepAll.dp {K : PySem.W.Frag} {H : Hp} : ∀ {vs : List V} {ds : List PyData}, RepAll (LH K H) vs ds → DpAll K H vs ds
  | _, _, .nil => .nil
  | _, _, .cons r rs => .cons (Rep.dp r) (RepAll.dp rs)
end
theorem Rep.reads {d : PyData} {v : V} {u : Value} (I : Inv X pins σ H s) (r : Rep (LH X.K H) v d) (rv : RelV v u) : ∃ as, Reads s.heap u d as := Dp.reads I d v u r.dp rv
theorem RepAll.reads {ds : List PyData} {vs : List V} {us : List Value} (I : Inv X pins σ H s) (r : RepAll (LH X.K H) vs ds) (rv : Vals vs us) : ∃ as, ReadsAll s.heap us ds as := Dp.readsAll I ds vs us r.dp rv
mutual
theorem Rep.plain {L : Addr → HO → Prop} : ∀ {v : V} {d : PyData}, Rep L v d → d.plain = true
  | _, _, .non => rfl
  | _, _, .bl b => rfl
  | _, _, .int i => rfl
  | _, _, .str x => rfl
  | _, _, .lst e r => by simp only [PyData.plain]; exact RepAll.plain r
  | _, _, .tup e r => by simp only [PyData.plain]; exact RepAll.plain r
theorem RepAll.plain {L : Addr → HO → Prop} : ∀ {vs : List V} {ds : List PyData}, RepAll L vs ds → PyData.plainAll ds = true
  | _, _, .nil => rfl
  | _, _, .cons r rs => by simp only [PyData.plainAll, Rep.plain r, RepAll.plain rs, Bool.and_self]
end
end

/-! ### reading operators with a scalar answer -/
/-- on data: f gives a scalar; the model's operation gives it too, at any heap where they read so -/
def DOp (X : Cx) (f : Value → Value → Sem Value) (g : PyData → PyData → Option PyData) : Prop :=
  ∀ (s : Shared) (u w : Value) (d e r : PyData) (as bs : List Addr) (Q : Value → Shared → Prop), Reads s.heap u d as → Reads s.heap w e bs → d.plain = true → e.plain = true → g d e = some r → scal r = true →
    (∀ z tk, RelV (vOf r) z → Q z { s with toks := tk }) → wpAny (model X.prog X.w) X.A (f u w) Q X.xe s
def rD (K : PySem.W.Frag) (g : PyData → PyData → Option PyData) : R2 := fun x y H Q => ∃ d e r, Rep (LH K H) x d ∧ Rep (LH K H) y e ∧ g d e = some r ∧ scal r = true ∧ Q (vOf r) H
theorem DOp.op {X : Cx} {f : Value → Value → Sem Value} {g : PyData → PyData → Option PyData} (h : DOp X f g) : OpR X f (rD X.K g) := by
  intro pins s σ H x y v u Q I rx ry ⟨d, e, r, h1, h2, h3, h4, q⟩
  obtain ⟨as, r1⟩ := h1.reads I rx
  obtain ⟨bs, r2⟩ := h2.reads I ry
  exact h s v u d e r as bs _ r1 r2 h1.plain h2.plain h3 h4 fun z tk hz => ⟨_, H, I.tok tk, hz, q⟩
/-- a data function as one on results -/
def fD (g : PyData → PyData → Option PyData) (x y : Sl) : Option Sl :=
  match dat x with
  | some d => match dat y with
    | some e => match g d e with
      | some r => if scal r = true then some (.val true r) else none
      | none => none
    | none => none
  | none => none
section
variable {X : Cx} {H0 : En} {W : WX} {e a b c : Expr} {f g k : EF} {pos : Pos}
theorem KQ.scal {K : PySem.W.Frag} {B H : Hp} {r : PyData} {Q : VK} (h : KQ K H0 B H (.val true r) Q) (e : Same B H) (hs : PL.scal r = true) : Q (vOf r) H := h.same e (Rep.vOf hs)
theorem op2D (g : PyData → PyData → Option PyData) : Op2 X H0 (rD X.K g) (fD g) := by
  intro B H x y v w s Q e0 eB r1 r2 hf hq
  unfold fD at hf
  split at hf
  · rename_i d hd
    split at hf
    · rename_i d' hd'
      split at hf
      · rename_i r hr
        split at hf
        · rename_i hs
          cases hf
          exact ⟨d, d', r, r1.data eB hd, r2.data eB hd', hr, hs, hq.scal eB hs⟩
        · cases hf
      · cases hf
    · cases hf
  · cases hf
theorem pdOpD {op : Operator} {G : PyData → PyData → Option PyData} (h : DOp X (binaryOp op) G) (ha : PD X H0 W a f) (hb : PD X H0 W b g) : PD X H0 W (.BinOp a op b pos) (e2 (fD G) f g) := pd2 ha hb (op2D G) fun pa pb => pe_op h.op pa pb
theorem pdCmpD {op : CmpOp} {G : PyData → PyData → Option PyData} (h : DOp X (compareOp op) G) (ha : PD X H0 W a f) (hb : PD X H0 W b g) (hm : behindInMarks op b = false) : PD X H0 W (.Compare a [op] [b] pos) (e2 (fD G) f g) := pd2 ha hb (op2D G) fun pa pb => pe_cmpR h.op pa pb hm
end

/-! ### arithmetic -/
/-- ints, and nothing else -/
def gI (c : Int → Int → Bool) (h : Int → Int → Int) (d e : PyData) : Option PyData :=
  match d, e with
  | .int i, .int j => if c i j = true then some (.int (h i j)) else none
  | _, _ => none
section
variable {X : Cx}
theorem dopI {f : Value → Value → Sem Value} {c : Int → Int → Bool} {h : Int → Int → Int} {C : Int → Int → Prop} (ho : OpR X f (rI C fun i j => .int (h i j))) (hc : ∀ i j, c i j = true → C i j) : OpR X f (rD X.K (gI c h)) := by
  intro pins s σ H x y v u Q I rx ry ⟨d, e, r, h1, h2, h3, h4, q⟩
  unfold gI at h3
  split at h3
  · rename_i i j
    split at h3
    · rename_i hcc
      cases h3
      exact ho pins s σ H x y v u Q I rx ry ⟨i, j, h1.intV, h2.intV, hc _ _ hcc, q⟩
    · cases h3
  · cases h3
theorem OpR.rI0 {f : Value → Value → Sem Value} {g : Int → Int → V} (h : OpR X f (rI0 g)) : OpR X f (rI (fun _ _ => True) g) := by
  intro pins s σ H x y v u Q I rx ry ⟨i, j, e1, e2, _, q⟩
  exact h pins s σ H x y v u Q I rx ry ⟨i, j, e1, e2, q⟩
end
def cT (_ _ : Int) : Bool := true
/-- what holds, as a Bool that no kernel unfolds -/
noncomputable def cd (p : Prop) : Bool := @decide p (Classical.propDecidable p)
theorem cd_true {p : Prop} (h : p) : cd p = true := @decide_eq_true p (Classical.propDecidable p) h
theorem cd_false {p : Prop} (h : ¬ p) : cd p = false := @decide_eq_false p (Classical.propDecidable p) h
theorem of_cd {p : Prop} (h : cd p = true) : p := @of_decide_eq_true p (Classical.propDecidable p) h
theorem cd_eq (p : Prop) [d : Decidable p] : cd p = decide p := by
  cases d with
  | isTrue h => rw [cd_true h]; rfl
  | isFalse h => rw [cd_false h]; rfl
noncomputable def cMul (i j : Int) : Bool := cd (-(18446744073709551616) < i ∧ i < 18446744073709551616) || cd (-(18446744073709551616) < j ∧ j < 18446744073709551616)
theorem cMul_ok {i j : Int} (h : cMul i j = true) : CMul i j := by
  unfold cMul at h
  rcases Bool.or_eq_true_iff.mp h with h | h
  · exact .inl (by have := of_cd h; simpa using this)
  · exact .inr (by have := of_cd h; simpa using this)
noncomputable def cDiv (_ j : Int) : Bool := cd (0 < j ∧ j < 1073741824)
noncomputable def cMod (_ j : Int) : Bool := cd (0 < j)
noncomputable def cPow (i j : Int) : Bool := cd (0 ≤ j ∧ j ≤ 1000000 ∧ i.natAbs < 18446744073709551616)
noncomputable def cShr (_ j : Int) : Bool := cd (0 ≤ j)
def gSub := gI cT (· - ·)
noncomputable def gDiv := gI cDiv (· / ·)
noncomputable def gMod := gI cMod (· % ·)
noncomputable def gPow := gI cPow fun i j => i ^ j.toNat
noncomputable def gShl := gI cPow fun i j => i * 2 ^ j.toNat
noncomputable def gShr := gI cShr fun i j => i / 2 ^ j.toNat
def gAnd := gI cT Builtin.bitAnd
def gOr := gI cT Builtin.bitOr
section
variable {X : Cx} {H0 : En} {W : WX} {e a b c : Expr} {f g k : EF} {pos : Pos}
theorem pdOpR {op : Operator} {G : PyData → PyData → Option PyData} (h : OpR X (binaryOp op) (rD X.K G)) (ha : PD X H0 W a f) (hb : PD X H0 W b g) : PD X H0 W (.BinOp a op b pos) (e2 (fD G) f g) := pd2 ha hb (op2D G) fun pa pb => pe_op h pa pb
theorem pdCmpR {op : CmpOp} {G : PyData → PyData → Option PyData} (h : OpR X (compareOp op) (rD X.K G)) (ha : PD X H0 W a f) (hb : PD X H0 W b g) (hm : behindInMarks op b = false) : PD X H0 W (.Compare a [op] [b] pos) (e2 (fD G) f g) := pd2 ha hb (op2D G) fun pa pb => pe_cmpR h pa pb hm
theorem pdSub (ha : PD X H0 W a f) (hb : PD X H0 W b g) : PD X H0 W (.BinOp a .Sub b pos) (e2 (fD gSub) f g) := pdOpR (dopI (PL.OpR.rI0 op_sub) fun _ _ _ => trivial) ha hb
theorem pdDiv (ha : PD X H0 W a f) (hb : PD X H0 W b g) : PD X H0 W (.BinOp a .FloorDiv b pos) (e2 (fD gDiv) f g) := pdOpR (dopI op_fdiv fun _ _ h => by have := of_cd h; exact this) ha hb
theorem pdMod (ha : PD X H0 W a f) (hb : PD X H0 W b g) : PD X H0 W (.BinOp a .Mod b pos) (e2 (fD gMod) f g) := pdOpR (dopI op_mod fun _ _ h => of_cd h) ha hb
theorem pdPow (ha : PD X H0 W a f) (hb : PD X H0 W b g) : PD X H0 W (.BinOp a .Pow b pos) (e2 (fD gPow) f g) := pdOpR (dopI op_pow fun _ _ h => by have := of_cd h; simpa [CPow] using this) ha hb
theorem pdShl (ha : PD X H0 W a f) (hb : PD X H0 W b g) : PD X H0 W (.BinOp a .LShift b pos) (e2 (fD gShl) f g) := pdOpR (dopI op_shl fun _ _ h => by have := of_cd h; simpa [CPow] using this) ha hb
theorem pdShr (ha : PD X H0 W a f) (hb : PD X H0 W b g) : PD X H0 W (.BinOp a .RShift b pos) (e2 (fD gShr) f g) := pdOpR (dopI op_shr fun _ _ h => of_cd h) ha hb
theorem pdAnd (ha : PD X H0 W a f) (hb : PD X H0 W b g) : PD X H0 W (.BinOp a .BitAnd b pos) (e2 (fD gAnd) f g) := pdOpR (dopI (PL.OpR.rI0 op_and) fun _ _ _ => trivial) ha hb
theorem pdOr (ha : PD X H0 W a f) (hb : PD X H0 W b g) : PD X H0 W (.BinOp a .BitOr b pos) (e2 (fD gOr) f g) := pdOpR (dopI (PL.OpR.rI0 op_or) fun _ _ _ => trivial) ha hb
end

/-! ### lists of a result -/
def lstR : Sl → Option (Bool × List PyData)
  | .val fr (.list ds) => some (fr, ds)
  | .bor fr ds => some (fr, ds)
  | .brf (.list ds) => if ds.all scal = true then some (true, ds) else none
  | _ => none
/-- .. scalars are fresh -/
def lstD (x : Sl) : Option (Bool × List PyData) := match lstR x with
  | some (fr, ds) => some (fr || ds.all scal, ds)
  | none => none
def tupD : Sl → Option (Bool × List PyData)
  | .val fr (.tuple ds) => some (fr, ds)
  | .brf (.tuple ds) => if ds.all scal = true then some (true, ds) else none
  | _ => none
theorem RepAll.scal {L L' : Addr → HO → Prop} : ∀ {vs : List V} {ds : List PyData}, RepAll L vs ds → ds.all PL.scal = true → RepAll L' vs ds
  | _, _, .nil, _ => .nil
  | _, _, .cons r rs, h => by
    rw [List.all_cons, Bool.and_eq_true] at h
    exact .cons (r.scal h.1) (RepAll.scal rs h.2)
section
variable {K : PySem.W.Frag} {H0 : En} {B H : Hp} {v : V} {x : Sl} {fr : Bool} {ds : List PyData}
theorem RZ.lstR (e : Same B H) (r : RZ K H0 B H v x) (h : PL.lstR x = some (fr, ds)) : ∃ p vs, v = .ref p ∧ SqL K H p vs ∧ RepAll (LF K H0 B fr) vs ds := by
  cases x with
  | und => cases h
  | own _ _ => cases h
  | full _ => cases h
  | val fr' d =>
    cases d <;> first | cases h | skip
    obtain ⟨p, vs, rfl, h1, h2⟩ := Rep.lstV r
    exact ⟨p, vs, rfl, LF.toH e p _ h1, h2⟩
  | bor fr' ds' =>
    cases h
    obtain ⟨p, vs, rfl, h1, h2⟩ := r
    exact ⟨p, vs, rfl, SqL.of h1, h2⟩
  | brf d =>
    cases d <;> first | cases h | skip
    unfold PL.lstR at h
    dsimp only at h
    split at h
    · rename_i hs
      cases h
      obtain ⟨p, vs, rfl, h1, h2⟩ := Rep.lstV r
      exact ⟨p, vs, rfl, SqL.of h1, h2.scal hs⟩
    · cases h
theorem RZ.lst (e : Same B H) (r : RZ K H0 B H v x) (h : lstD x = some (fr, ds)) : ∃ p vs, v = .ref p ∧ SqL K H p vs ∧ RepAll (LF K H0 B fr) vs ds := by
  unfold lstD at h
  split at h
  · rename_i f ds' hl
    cases h
    obtain ⟨p, vs, e1, e2, e3⟩ := RZ.lstR e r hl
    refine ⟨p, vs, e1, e2, ?_⟩
    cases hs : ds.all PL.scal with
    | true => exact e3.scal hs
    | false => rw [Bool.or_false]; exact e3
  · cases h
theorem RZ.tup (e : Same B H) (r : RZ K H0 B H v x) (h : tupD x = some (fr, ds)) : ∃ p vs, v = .ref p ∧ SqT K H p vs ∧ RepAll (LF K H0 B fr) vs ds := by
  cases x with
  | und => cases h
  | own _ _ => cases h
  | full _ => cases h
  | val fr' d =>
    cases d <;> first | cases h | skip
    obtain ⟨p, vs, rfl, h1, h2⟩ := Rep.tupV r
    exact ⟨p, vs, rfl, LF.toH e p _ h1, h2⟩
  | bor fr' ds' => cases h
  | brf d =>
    cases d <;> first | cases h | skip
    unfold tupD at h
    dsimp only at h
    split at h
    · rename_i hs
      cases h
      obtain ⟨p, vs, rfl, h1, h2⟩ := Rep.tupV r
      exact ⟨p, vs, rfl, SqT.of h1, h2.scal hs⟩
    · cases h
end

/-! ### +, * with lists -/
section
variable {X : Cx} {H0 : En}
def rCatS (K : PySem.W.Frag) : R2 := fun x y H Q => ∃ l b xs zs, x = .ref l ∧ y = .ref b ∧ SqL K H l xs ∧ SqL K H b zs ∧ xs.length + zs.length ≤ sizeLine ∧ ∀ p, H p = none → Q (.ref p) (upd H p (.lst (xs ++ zs)))
theorem opCatS : OpR X (binaryOp .Add) (rCatS X.K) := by
  intro pins s σ H x y v u Q I rx ry ⟨l, b, xs, zs, ex, ey, hl, hb, hz, q⟩
  subst ex; subst ey
  cases rx; cases ry
  obtain ⟨i1, v1, ⟨⟨c1, d1, dt1, sl1⟩, n1, g1, k1, k2, k3⟩, _⟩ := I.list hl
  obtain ⟨i2, v2, ⟨⟨c2, d2, dt2, sl2⟩, n2, g2, m1, m2, m3⟩, _⟩ := I.list hb
  dsimp only at k1 k2 k3 m1 m2 m3
  subst k1; subst k2; subst k3; subst m1; subst m2; subst m3
  have z1 := v1.length
  have z2 := v2.length
  have ea : i1.toArray ++ i2.toArray = (i1 ++ i2).toArray := by simp
  refine concat_meets ⟨_, g1, rfl⟩ ⟨_, g2, rfl⟩ noFill_list_add seq_list_add PySem.F.slot_list_add PySem.F.entry_list_add (PySem.F.args_list_add_2 _ _)
    (list_addW l b _ _ n1 n2 _ _ sl1 sl2 (by simp only [List.size_toArray]; omega)) ⟨g1, g2, ?_⟩
  rw [ea]
  refine ⟨.ref _, _, I.lnew (t' := s.toks) (v1.append v2) ?_, rfl, q _ I.fresh⟩
  rw [List.length_append]; omega
def rRepS (K : PySem.W.Frag) : R2 := fun x y H Q => ∃ l k xs, x = .ref l ∧ y = .int k ∧ SqL K H l xs ∧ -(2 ^ 63) ≤ k ∧ k < 2 ^ 63 ∧ xs.length * k.toNat ≤ sizeLine ∧ ∀ p, H p = none → Q (.ref p) (upd H p (.lst (List.replicate k.toNat xs).flatten))
theorem opRepS : OpR X (binaryOp .Mult) (rRepS X.K) := by
  intro pins s σ H x y v u Q I rx ry ⟨l, k, xs, ex, ey, hl, b1, b2, hz, q⟩
  subst ex; subst ey
  cases rx
  obtain ⟨t, et⟩ := ry
  subst et
  obtain ⟨i1, v1, ⟨⟨c1, d1, dt1, sl1⟩, n1, g1, k1, k2, k3⟩, _⟩ := I.list hl
  dsimp only at k1 k2 k3
  subst k1; subst k2; subst k3
  have z1 := v1.length
  have hs : sizeLine = 16777216 := sizeLine_eq
  have hsz : i1.toArray.size * k.toNat ≤ 16777216 := by rw [List.size_toArray, ← z1]; omega
  refine wpAny_binaryOp_repeat_ref (T := "list") (U := "int") (by decide) ⟨_, g1, rfl⟩ (fun s' => typeIs_int s' k t) noFill_list_mul F.fills_int_mul F.slot_int_rmul repeat_list F.slot_int_index.lookup
    (call_meets F.slot_int_rmul (typeIs_int s k t) F.entry_int_rmul (F.args_int_rmul_2 _ _) (lm_int_rmul_list_any k t l i1.toArray n1 none sl1) ⟨g1, rfl, ⟨_, g1, rfl⟩, ?_⟩)
  refine call_meets F.slot_list_mul ⟨_, g1, rfl⟩ F.entry_list_mul (F.args_list_mul_2 _ _) (lm_list_mul_any l i1.toArray n1 none sl1 k t (by simp [Builtin.List.listFitsIndex]; omega) (by omega) (by simp [Builtin.List.listTooLong, sizeLine]; omega)) ⟨g1, ?_⟩
  rw [listMul_foldl_if]
  refine ⟨.ref _, _, I.lnew (t' := s.toks) (v1.rep k.toNat) ?_, rfl, q _ I.fresh⟩
  rw [lm_len_rep_flat, Nat.mul_comm]; exact hz
/-- + of ints, texts, lists -/
def gAddS (d e : PyData) : Option PyData :=
  match d, e with
  | .int i, .int j => some (.int (i + j))
  | .str x, .str y => if x.length + y.length ≤ 16777216 then some (.str (x ++ y)) else none
  | _, _ => none
def fAdd (x y : Sl) : Option Sl :=
  match lstD x with
  | some (f1, d1) => match lstD y with
    | some (f2, d2) => if d1.length + d2.length ≤ 16777216 then some (.own (f1 && f2) (d1 ++ d2)) else none
    | none => none
  | none => fD gAddS x y
def rAddS (K : PySem.W.Frag) : R2 := fun x y H Q => rCatS K x y H Q ∨ rD K gAddS x y H Q
theorem opAddS : OpR X (binaryOp .Add) (rAddS X.K) := by
  refine opCatS.or ?_
  intro pins s σ H x y v u Q I rx ry ⟨d, e, r, h1, h2, h3, h4, q⟩
  unfold gAddS at h3
  split at h3
  · cases h3
    exact op_add pins s σ H x y v u Q I rx ry ⟨_, _, h1.intV, h2.intV, q⟩
  · split at h3
    · cases h3
      rename_i hz
      exact op_add_str pins s σ H x y v u Q I rx ry ⟨_, _, h1.strV, h2.strV, by rw [sizeLine_eq]; exact hz, q⟩
    · cases h3
  · cases h3
theorem op2Add : Op2 X H0 (rAddS X.K) fAdd := by
  intro B H x y v w s Q e0 eB r1 r2 hf hq
  unfold fAdd at hf
  split at hf
  · rename_i f1 d1 h1
    split at hf
    · rename_i f2 d2 h2
      split at hf
      · rename_i hz
        cases hf
        obtain ⟨p, vs, rfl, s1, a1⟩ := r1.lst eB h1
        obtain ⟨p2, ws, rfl, s2, a2⟩ := r2.lst eB h2
        refine .inl ⟨p, p2, vs, ws, rfl, rfl, s1, s2, by rw [a1.length, a2.length, sizeLine_eq]; exact hz, fun q hp => ?_⟩
        exact hq.new eB ((a1.mono LF.and1).append (a2.mono LF.and2)) hp
      · cases hf
    · cases hf
  · exact .inr (op2D gAddS B H x y v w s Q e0 eB r1 r2 hf hq)
noncomputable def gMulS := gI cMul (· * ·)
noncomputable def fMul (x y : Sl) : Option Sl :=
  match lstD x with
  | some (f1, d1) => match dat y with
    | some (.int k) => if cd (-(9223372036854775808) ≤ k ∧ k < 9223372036854775808 ∧ d1.length * k.toNat ≤ 16777216) = true then some (.own f1 (List.replicate k.toNat d1).flatten) else none
    | _ => none
  | none => fD gMulS x y
def rMulS (K : PySem.W.Frag) : R2 := fun x y H Q => rRepS K x y H Q ∨ rD K gMulS x y H Q
theorem opMulS : OpR X (binaryOp .Mult) (rMulS X.K) := opRepS.or (dopI op_mul fun _ _ h => cMul_ok h)
theorem op2Mul : Op2 X H0 (rMulS X.K) fMul := by
  intro B H x y v w s Q e0 eB r1 r2 hf hq
  unfold fMul at hf
  split at hf
  · rename_i f1 d1 h1
    split at hf
    · rename_i k h2
      split at hf
      · rename_i hz
        cases hf
        obtain ⟨p, vs, rfl, s1, a1⟩ := r1.lst eB h1
        have hk := (r2.data eB h2).intV
        have hz := of_cd hz
        refine .inl ⟨p, k, vs, rfl, hk, s1, by simpa using hz.1, by simpa using hz.2.1, by rw [a1.length, sizeLine_eq]; exact hz.2.2, fun q hp => ?_⟩
        exact hq.new eB (a1.rep k.toNat) hp
      · cases hf
    · cases hf
  · exact .inr (op2D gMulS B H x y v w s Q e0 eB r1 r2 hf hq)
end
section
variable {X : Cx} {H0 : En} {W : WX} {e a b c : Expr} {f g k : EF} {pos : Pos}
theorem pdAdd (ha : PD X H0 W a f) (hb : PD X H0 W b g) : PD X H0 W (.BinOp a .Add b pos) (e2 fAdd f g) := pd2 ha hb op2Add fun pa pb => pe_op opAddS pa pb
theorem pdMul (ha : PD X H0 W a f) (hb : PD X H0 W b g) : PD X H0 W (.BinOp a .Mult b pos) (e2 fMul f g) := pd2 ha hb op2Mul fun pa pb => pe_op opMulS pa pb
/-- -a -/
def fNeg (x : Sl) : Option Sl := match dat x with | some (.int i) => some (.val true (.int (-i))) | _ => none
theorem pdNeg (ha : PD X H0 W a f) : PD X H0 W (.UnaryOp .USub a pos) (e1 fNeg f) := pd1 ha (fun B H x v s Q e0 eB r hf hq => by
  unfold fNeg at hf
  split at hf
  · rename_i i hi
    cases hf
    exact ⟨i, (r.data eB hi).intV, hq.int eB⟩
  · cases hf) fun pa => pe_un un_neg pa
end

/-! ### comparisons -/
noncomputable def gEq (d e : PyData) : Option PyData :=
  match d, e with
  | .int i, .int j => some (.bool (cd (i = j)))
  | d, e => if d.depth ≤ 60 then some (.bool (PyData.eqv d e)) else none
noncomputable def gNe (d e : PyData) : Option PyData :=
  match d, e with
  | .int i, .int j => some (.bool (!cd (i = j)))
  | d, e => if d.depth ≤ 60 then some (.bool (!PyData.eqv d e)) else none
/-- an order: of ints; of alike data -/
def gOrd (p : Int → Int → Bool) (q : PyData → PyData → Bool) (d e : PyData) : Option PyData :=
  match d, e with
  | .int i, .int j => some (.bool (p i j))
  | .none, _ => none
  | d, e => if PySem.W.alike d e = true ∧ d.depth ≤ 60 then some (.bool (q d e)) else none
noncomputable def gLt := gOrd (fun i j => cd (i < j)) fun d e => PySem.W.dataLt d e
noncomputable def gLe := gOrd (fun i j => cd (i ≤ j)) fun d e => !PySem.W.dataLt e d
noncomputable def gGt := gOrd (fun i j => cd (j < i)) fun d e => PySem.W.dataLt e d
noncomputable def gGe := gOrd (fun i j => cd (j ≤ i)) fun d e => !PySem.W.dataLt d e
def gIn (neg : Bool) (d e : PyData) : Option PyData :=
  match e with
  | .list xs => if d.depth ≤ 60 then some (.bool (neg ^^ xs.any fun y => PyData.eqv y d)) else none
  | .tuple xs => if d.depth ≤ 60 then some (.bool (neg ^^ xs.any fun y => PyData.eqv y d)) else none
  | _ => none
def gIs (neg : Bool) (d e : PyData) : Option PyData :=
  match d, e with
  | .bool a, .bool b => some (.bool (neg ^^ decide (a = b)))
  | .none, .none => some (.bool (!neg))
  | _, .none => some (.bool neg)
  | _, _ => none
section
variable {X : Cx} {k : Nat}
theorem room60 (hr : Room k X.A) {d e : PyData} (h : d.depth ≤ 60) : X.A.units + min d.depth e.depth < cLine := by
  have := hr.units
  have h2 : min d.depth e.depth ≤ d.depth := Nat.min_le_left _ _
  omega
theorem dopEq (hr : Room k X.A) : DOp X (compareOp .Eq) gEq := by
  intro s u w d e r as bs Q r1 r2 p1 p2 hg hs q
  unfold gEq at hg
  split at hg
  · cases hg
    cases r1; cases r2
    exact eq_int (by have := q _ s.toks rfl; rw [cd_eq] at this; rw [Bool.beq_eq_decide_eq]; exact this)
  · split at hg
    · rename_i hd
      cases hg
      exact SeqAt.eq_plain r1 r2 p1 p2 (room60 hr hd) (q _ s.toks rfl)
    · cases hg
theorem dopNe (hr : Room k X.A) : DOp X (compareOp .NotEq) gNe := by
  intro s u w d e r as bs Q r1 r2 p1 p2 hg hs q
  unfold gNe at hg
  split at hg
  · cases hg
    cases r1; cases r2
    exact ne_int (by have := q _ s.toks rfl; rw [cd_eq] at this; rw [bne, Bool.beq_eq_decide_eq]; exact this)
  · split at hg
    · rename_i hd
      cases hg
      exact SeqAt.ne_plain r1 r2 p1 p2 (room60 hr hd) (q _ s.toks rfl)
    · cases hg
theorem dopLt (hr : Room k X.A) : DOp X (compareOp .Lt) gLt := by
  intro s u w d e r as bs Q r1 r2 p1 p2 hg hs q
  unfold gLt gOrd at hg
  split at hg
  · cases hg
    cases r1; cases r2
    exact lt_int (by have := q _ s.toks rfl; dsimp only at this; rw [cd_eq] at this; exact this)
  · cases hg
  · split at hg
    · rename_i hd
      cases hg
      exact PySem.W.lt_data r1 r2 hd.1 (by assumption) (room60 hr hd.2) (q _ s.toks rfl)
    · cases hg
theorem dopLe (hr : Room k X.A) : DOp X (compareOp .LtE) gLe := by
  intro s u w d e r as bs Q r1 r2 p1 p2 hg hs q
  unfold gLe gOrd at hg
  split at hg
  · cases hg
    cases r1; cases r2
    exact le_int (by have := q _ s.toks rfl; dsimp only at this; rw [cd_eq] at this; exact this)
  · cases hg
  · split at hg
    · rename_i hd
      cases hg
      exact PySem.W.le_data r1 r2 hd.1 (by assumption) (room60 hr hd.2) (q _ s.toks rfl)
    · cases hg
theorem dopGt (hr : Room k X.A) : DOp X (compareOp .Gt) gGt := by
  intro s u w d e r as bs Q r1 r2 p1 p2 hg hs q
  unfold gGt gOrd at hg
  split at hg
  · cases hg
    cases r1; cases r2
    exact gt_int (by have := q _ s.toks rfl; dsimp only at this; rw [cd_eq] at this; exact this)
  · cases hg
  · split at hg
    · rename_i hd
      cases hg
      exact PySem.W.gt_data r1 r2 hd.1 (by assumption) (room60 hr hd.2) (q _ s.toks rfl)
    · cases hg
theorem dopGe (hr : Room k X.A) : DOp X (compareOp .GtE) gGe := by
  intro s u w d e r as bs Q r1 r2 p1 p2 hg hs q
  unfold gGe gOrd at hg
  split at hg
  · cases hg
    cases r1; cases r2
    exact ge_int (by have := q _ s.toks rfl; dsimp only at this; rw [cd_eq] at this; exact this)
  · cases hg
  · split at hg
    · rename_i hd
      cases hg
      exact PySem.W.ge_data r1 r2 hd.1 (by assumption) (room60 hr hd.2) (q _ s.toks rfl)
    · cases hg
theorem room61 (hr : Room k X.A) {d : PyData} {n : Nat} (h : d.depth ≤ 60) : X.A.units + 1 + min n d.depth < cLine := by
  have := hr.units
  have h2 : min n d.depth ≤ d.depth := Nat.min_le_right _ _
  omega
theorem dopIn (hr : Room k X.A) : DOp X (compareOp .In) (gIn false) := by
  intro s u w d e r as bs Q r1 r2 p1 p2 hg hs q
  unfold gIn at hg
  split at hg
  · split at hg
    · rename_i hd
      cases hg
      exact SeqAt.in_list_data r2 r1 (by simpa [PyData.plain] using p2) p1 (room61 hr hd) (by have := q _ s.toks rfl; simpa [vOf] using this)
    · cases hg
  · split at hg
    · rename_i hd
      cases hg
      exact SeqAt.in_tuple_data r2 r1 (by simpa [PyData.plain] using p2) p1 (room61 hr hd) (by have := q _ s.toks rfl; simpa [vOf] using this)
    · cases hg
  · cases hg
theorem dopNotIn (hr : Room k X.A) : DOp X (compareOp .NotIn) (gIn true) := by
  intro s u w d e r as bs Q r1 r2 p1 p2 hg hs q
  unfold gIn at hg
  split at hg
  · split at hg
    · rename_i hd
      cases hg
      exact SeqAt.notIn_list_data r2 r1 (by simpa [PyData.plain] using p2) p1 (room61 hr hd) (by have := q _ s.toks rfl; simpa [vOf] using this)
    · cases hg
  · split at hg
    · rename_i hd
      cases hg
      exact SeqAt.notIn_tuple_data r2 r1 (by simpa [PyData.plain] using p2) p1 (room61 hr hd) (by have := q _ s.toks rfl; simpa [vOf] using this)
    · cases hg
  · cases hg
theorem Rep.non_iff {L : Addr → HO → Prop} {v : V} {d : PyData} (r : Rep L v d) : (v = .non) ↔ (d = .none) := by
  cases r <;> simp
theorem opIs : OpR X (compareOp .Is) (rD X.K (gIs false)) := by
  intro pins s σ H x y v u Q I rx ry ⟨d, e, r, h1, h2, h3, h4, q⟩
  unfold gIs at h3
  split at h3
  · cases h3
    exact op_isBl pins s σ H x y v u Q I rx ry ⟨_, _, h1.blV, h2.blV, by simpa [vOf] using q⟩
  · cases h3
    refine op_isN pins s σ H x y v u Q I rx ry ⟨h2.nonV, ?_⟩
    rw [h1.nonV]; simpa [vOf] using q
  · rename_i hn
    cases h3
    refine op_isN pins s σ H x y v u Q I rx ry ⟨h2.nonV, ?_⟩
    rw [decide_eq_false (fun z => hn (h1.non_iff.mp z))]; simpa [vOf] using q
  · cases h3
theorem opIsNot : OpR X (compareOp .IsNot) (rD X.K (gIs true)) := by
  intro pins s σ H x y v u Q I rx ry ⟨d, e, r, h1, h2, h3, h4, q⟩
  unfold gIs at h3
  split at h3
  · cases h3
    exact op_notBl pins s σ H x y v u Q I rx ry ⟨_, _, h1.blV, h2.blV, by simpa [vOf] using q⟩
  · cases h3
    refine op_notN pins s σ H x y v u Q I rx ry ⟨h2.nonV, ?_⟩
    rw [h1.nonV]; simpa [vOf] using q
  · rename_i hn
    cases h3
    refine op_notN pins s σ H x y v u Q I rx ry ⟨h2.nonV, ?_⟩
    rw [decide_eq_false (fun z => hn (h1.non_iff.mp z))]; simpa [vOf] using q
  · cases h3
end
section
variable {X : Cx} {H0 : En} {W : WX} {e a b c : Expr} {f g : EF} {pos : Pos} {k : Nat}
theorem pdEq (hr : Room k X.A) (ha : PD X H0 W a f) (hb : PD X H0 W b g) : PD X H0 W (.Compare a [.Eq] [b] pos) (e2 (fD gEq) f g) := pdCmpD (dopEq hr) ha hb (nomark _)
theorem pdNe (hr : Room k X.A) (ha : PD X H0 W a f) (hb : PD X H0 W b g) : PD X H0 W (.Compare a [.NotEq] [b] pos) (e2 (fD gNe) f g) := pdCmpD (dopNe hr) ha hb (nomark _)
theorem pdLt (hr : Room k X.A) (ha : PD X H0 W a f) (hb : PD X H0 W b g) : PD X H0 W (.Compare a [.Lt] [b] pos) (e2 (fD gLt) f g) := pdCmpD (dopLt hr) ha hb (nomark _)
theorem pdLe (hr : Room k X.A) (ha : PD X H0 W a f) (hb : PD X H0 W b g) : PD X H0 W (.Compare a [.LtE] [b] pos) (e2 (fD gLe) f g) := pdCmpD (dopLe hr) ha hb (nomark _)
theorem pdGt (hr : Room k X.A) (ha : PD X H0 W a f) (hb : PD X H0 W b g) : PD X H0 W (.Compare a [.Gt] [b] pos) (e2 (fD gGt) f g) := pdCmpD (dopGt hr) ha hb (nomark _)
theorem pdGe (hr : Room k X.A) (ha : PD X H0 W a f) (hb : PD X H0 W b g) : PD X H0 W (.Compare a [.GtE] [b] pos) (e2 (fD gGe) f g) := pdCmpD (dopGe hr) ha hb (nomark _)
theorem pdIn (hr : Room k X.A) (ha : PD X H0 W a f) (hb : PD X H0 W b g) (hm : behindInMarks .In b = false := by rfl) : PD X H0 W (.Compare a [.In] [b] pos) (e2 (fD (gIn false)) f g) := pdCmpD (dopIn hr) ha hb hm
theorem pdNotIn (hr : Room k X.A) (ha : PD X H0 W a f) (hb : PD X H0 W b g) (hm : behindInMarks .NotIn b = false := by rfl) : PD X H0 W (.Compare a [.NotIn] [b] pos) (e2 (fD (gIn true)) f g) := pdCmpD (dopNotIn hr) ha hb hm
theorem pdIs (ha : PD X H0 W a f) (hb : PD X H0 W b g) : PD X H0 W (.Compare a [.Is] [b] pos) (e2 (fD (gIs false)) f g) := pdCmpR opIs ha hb (nomark _)
theorem pdIsNot (ha : PD X H0 W a f) (hb : PD X H0 W b g) : PD X H0 W (.Compare a [.IsNot] [b] pos) (e2 (fD (gIs true)) f g) := pdCmpR opIsNot ha hb (nomark _)
end
end PL

/-! PL4: truth and tests, argument lists, displays, subscripts, slices, calls of built-ins. -/
namespace PL
open PySem PySem.Spec PyProof.Rows L2

/-! ### tests -/
inductive Rb where
  | ok (b : Bool)
  | ex (n : Str)
abbrev BF := Ev → Option Rb
def OKB (K : PySem.W.Frag) (mg : Str → Option Value) (W : WX) (B H : Hp) (σ : L2.St) (o : Option Rb) (Q : Bool → Hp → Prop) : Prop :=
  (∃ b, o = some (.ok b) ∧ ∀ B' H', Nx B H B' H' → Q b H') ∨ ∃ n, o = some (.ex n) ∧ KX mg B H σ W n
def tT (K : PySem.W.Frag) (mg : Str → Option Value) (H0 : En) (W : WX) (f : BF) : TT := fun σ H Q => ∃ B ρ, ER K H0 B H σ ρ ∧ OKB K mg W B H σ (f ρ) Q
structure PB (X : Cx) (H0 : En) (W : WX) (e : Expr) (f : BF) : Prop where
  pt : PT X e (tT X.K X.mg H0 W f)
structure PBw (X : Cx) (H0 : En) (W : WX) (e : Expr) (f : BF) : Prop where
  pw : PW X e (tT X.K X.mg H0 W f)
def truth : PyData → Option Bool
  | .none => some false
  | .bool b => some b
  | .int i => some (i != 0)
  | .str x => if x.length ≤ 16777216 then some (x.length != 0) else none
  | .list xs => some (!xs.isEmpty)
  | .tuple xs => some (!xs.isEmpty)
  | .dict _ => none
def okB (o : Option Bool) : Option Rb := o.map .ok
/-- an expression's result as a test -/
def tOf (f : EF) : BF := fun ρ =>
  match f ρ with
  | some (.ok s) => match dat (frz s) with
    | some d => okB (truth d)
    | none => none
  | some (.ex n) => some (.ex n)
  | none => none
section
variable {X : Cx} {H0 : En} {W : WX} {e a b c : Expr} {f g k : EF} {pos : Pos} {K : PySem.W.Frag} {B H B' H' : Hp} {σ : L2.St} {mg : Str → Option Value}
theorem okB_ok {o : Option Bool} {b : Bool} (h : okB o = some (.ok b)) : o = some b := by
  cases o with
  | none => cases h
  | some u => cases h; rfl
theorem okB_ex {o : Option Bool} {n : Str} (h : okB o = some (.ex n)) : False := by
  cases o with
  | none => cases h
  | some u => cases h
theorem OKB.nx {o : Option Rb} {Q : Bool → Hp → Prop} (h : OKB K mg W B H σ o Q) (n : Nx B H B' H') : OKB K mg W B' H' σ o Q := by
  rcases h with ⟨s, h1, h2⟩ | ⟨m, h1, h2⟩
  · exact .inl ⟨s, h1, fun B2 H2 n2 => h2 B2 H2 (n.trans n2)⟩
  · exact .inr ⟨m, h1, h2.nx n⟩
theorem tof_ok {ρ : Ev} {r : Option Rs} {Q : Bool → Hp → Prop} {R : VK} (hr : f ρ = r) (h : OKB K mg W B H σ (tOf f ρ) Q)
    (c : ∀ (x : Sl) (d : PyData) (b : Bool) (v : V) (B' H' : Hp), Nx B H B' H' → RZ K H0 B' H' v x → dat x = some d → truth d = some b → Q b H' → R v H') : OKZ K mg H0 W B H σ r R := by
  subst hr
  unfold tOf at h
  cases q : f ρ with
  | none => rw [q] at h; rcases h with ⟨s, h1, h2⟩ | ⟨m, h1, h2⟩ <;> cases h1
  | some o =>
    rw [q] at h
    cases o with
    | ex m =>
      rcases h with ⟨s, h1, h2⟩ | ⟨m', h1, h2⟩
      · cases h1
      · cases h1; exact .inr ⟨m, rfl, h2⟩
    | ok x =>
      refine .inl ⟨x, rfl, fun v B' H' n rz => ?_⟩
      dsimp only at h
      cases qd : dat (frz x) with
      | none => rw [qd] at h; rcases h with ⟨s, h1, h2⟩ | ⟨m, h1, h2⟩ <;> cases h1
      | some d =>
        rw [qd] at h
        rcases h with ⟨b, h1, h2⟩ | ⟨m, h1, h2⟩
        · exact c (frz x) d b v B' H' n rz qd (okB_ok h1) (h2 B' H' n)
        · exact (okB_ex h1).elim
theorem truth_ok {v : V} {d : PyData} {b : Bool} (r : Rep (LH K H) v d) (h : truth d = some b) : TruV K v H b := by
  cases r with
  | non => cases h; rfl
  | bl _ => cases h; rfl
  | int _ => cases h; rfl
  | str x =>
    unfold truth at h
    dsimp only at h
    split at h
    · rename_i hz
      cases h
      refine ⟨by rw [sizeLine_eq]; exact hz, ?_⟩
      by_cases e : x.length = 0
      · rw [e]; rfl
      · have h2 : (x.length : Int) ≠ 0 := by omega
        rw [bne_iff_ne.mpr e, bne_iff_ne.mpr h2]
    · cases h
  | lst e r => cases h; exact .inl ⟨_, e, by have := r.length; rename_i xs ds; cases xs <;> cases ds <;> simp_all⟩
  | tup e r => cases h; exact .inr (.inl ⟨_, e, by have := r.length; rename_i xs ds; cases xs <;> cases ds <;> simp_all⟩)
/-- a name, a call, a subscript .. as a test -/
theorem pbTruth (h : PD X H0 W e f) (he : ∀ whole, isTrue e X.env whole = (do let v ← whole; standAt e.pos; holding [v] (truthy v)) := by intro _; rfl) : PB X H0 W e (tOf f) :=
  ⟨ptWeak (pt_truth h.z he) fun σ H Q ⟨B, ρ, E, q⟩ => ⟨B, ρ, E, tof_ok rfl q fun x d b v B' H' n rz hd ht hq => ⟨b, truth_ok (rz.data n.bh hd) ht, hq⟩⟩⟩
/-- a result that is a bool, as a test -/
def bOf (f : EF) : BF := fun ρ =>
  match f ρ with
  | some (.ok (.val _ (.bool b))) => some (.ok b)
  | some (.ex n) => some (.ex n)
  | _ => none
theorem bof_ok {ρ : Ev} {Q : Bool → Hp → Prop} (h : OKB K mg W B H σ (bOf f ρ) Q) : OK K mg H0 W B H σ (f ρ) fun v H' => ∃ b, v = .bl b ∧ Q b H' := by
  unfold bOf at h
  split at h
  · rename_i fr b hb
    rcases h with ⟨s, h1, h2⟩ | ⟨m, h1, h2⟩
    · cases h1
      exact .inl ⟨_, hb, fun v B' H' T n t r => ⟨b, Rep.blV r, h2 B' H' n⟩⟩
    · cases h1
  · rename_i n hn
    rcases h with ⟨s, h1, h2⟩ | ⟨m, h1, h2⟩
    · cases h1
    · cases h1; exact .inr ⟨n, hn, h2⟩
  · rcases h with ⟨s, h1, h2⟩ | ⟨m, h1, h2⟩ <;> cases h1
theorem pd2core {r : R2} {F : Sl → Sl → Option Sl} (ho : Op2 X H0 r F) {ρ : Ev} {Q : VK} (E : ER X.K H0 B H σ ρ) (q : OK X.K X.mg H0 W B H σ (e2 F f g ρ) Q) : tOp r (tZ X.K X.mg H0 W f) (tZ X.K X.mg H0 W g) σ H Q := by
  refine ⟨B, ρ, E, OK.bz q fun x v B1 H1 n1 r1 q1 => ?_⟩
  have E1 := E.nx n1
  refine ⟨B1, ρ, E1, OK.bz q1 fun y w B2 H2 n2 r2 q2 => ?_⟩
  have E2 := E1.nx n2
  obtain ⟨s, h1, h2⟩ := OK.okO q2
  exact ho B2 H2 x y v w s Q E2.e0 E2.eB (r1.mono n2) r2 h1 h2
/-- a comparison as a test -/
theorem pbCmp {op : CmpOp} {G : PyData → PyData → Option PyData} (h : OpR X (compareOp op) (rD X.K G)) (ha : PD X H0 W a f) (hb : PD X H0 W b g) (hm : behindInMarks op b = false) : PB X H0 W (.Compare a [op] [b] pos) (bOf (e2 (fD G) f g)) :=
  ⟨ptWeak (pt_cmpR h ha.z hb.z hm) fun σ H Q ⟨B, ρ, E, q⟩ => pd2core (op2D G) E (bof_ok q)⟩
theorem pbEq {k : Nat} (hr : Room k X.A) (ha : PD X H0 W a f) (hb : PD X H0 W b g) : PB X H0 W (.Compare a [.Eq] [b] pos) (bOf (e2 (fD gEq) f g)) := pbCmp (dopEq hr).op ha hb (nomark _)
theorem pbNe {k : Nat} (hr : Room k X.A) (ha : PD X H0 W a f) (hb : PD X H0 W b g) : PB X H0 W (.Compare a [.NotEq] [b] pos) (bOf (e2 (fD gNe) f g)) := pbCmp (dopNe hr).op ha hb (nomark _)
theorem pbLt {k : Nat} (hr : Room k X.A) (ha : PD X H0 W a f) (hb : PD X H0 W b g) : PB X H0 W (.Compare a [.Lt] [b] pos) (bOf (e2 (fD gLt) f g)) := pbCmp (dopLt hr).op ha hb (nomark _)
theorem pbLe {k : Nat} (hr : Room k X.A) (ha : PD X H0 W a f) (hb : PD X H0 W b g) : PB X H0 W (.Compare a [.LtE] [b] pos) (bOf (e2 (fD gLe) f g)) := pbCmp (dopLe hr).op ha hb (nomark _)
theorem pbGt {k : Nat} (hr : Room k X.A) (ha : PD X H0 W a f) (hb : PD X H0 W b g) : PB X H0 W (.Compare a [.Gt] [b] pos) (bOf (e2 (fD gGt) f g)) := pbCmp (dopGt hr).op ha hb (nomark _)
theorem pbGe {k : Nat} (hr : Room k X.A) (ha : PD X H0 W a f) (hb : PD X H0 W b g) : PB X H0 W (.Compare a [.GtE] [b] pos) (bOf (e2 (fD gGe) f g)) := pbCmp (dopGe hr).op ha hb (nomark _)
theorem pbIn {k : Nat} (hr : Room k X.A) (ha : PD X H0 W a f) (hb : PD X H0 W b g) (hm : behindInMarks .In b = false := by rfl) : PB X H0 W (.Compare a [.In] [b] pos) (bOf (e2 (fD (gIn false)) f g)) := pbCmp (dopIn hr).op ha hb hm
theorem pbNotIn {k : Nat} (hr : Room k X.A) (ha : PD X H0 W a f) (hb : PD X H0 W b g) (hm : behindInMarks .NotIn b = false := by rfl) : PB X H0 W (.Compare a [.NotIn] [b] pos) (bOf (e2 (fD (gIn true)) f g)) := pbCmp (dopNotIn hr).op ha hb hm
theorem pbIs (ha : PD X H0 W a f) (hb : PD X H0 W b g) : PB X H0 W (.Compare a [.Is] [b] pos) (bOf (e2 (fD (gIs false)) f g)) := pbCmp opIs ha hb (nomark _)
theorem pbIsNot (ha : PD X H0 W a f) (hb : PD X H0 W b g) : PB X H0 W (.Compare a [.IsNot] [b] pos) (bOf (e2 (fD (gIs true)) f g)) := pbCmp opIsNot ha hb (nomark _)
def bNot (f : BF) : BF := fun ρ => match f ρ with | some (.ok b) => some (.ok (!b)) | r => r
def bAnd (f g : BF) : BF := fun ρ => match f ρ with | some (.ok true) => g ρ | r => r
def bOr (f g : BF) : BF := fun ρ => match f ρ with | some (.ok false) => g ρ | r => r
theorem pbNot {f : BF} (h : PB X H0 W a f) : PB X H0 W (.UnaryOp .Not a pos) (bNot f) := ⟨ptWeak (pt_not h.pt) fun σ H Q ⟨B, ρ, E, q⟩ => ⟨B, ρ, E, by
  unfold bNot at q
  cases r : f ρ with
  | none => rw [r] at q; rcases q with ⟨s, h1, h2⟩ | ⟨m, h1, h2⟩ <;> cases h1
  | some o =>
    rw [r] at q
    cases o with
    | ok b =>
      rcases q with ⟨s, h1, h2⟩ | ⟨m, h1, h2⟩
      · cases h1; exact .inl ⟨b, rfl, h2⟩
      · cases h1
    | ex n =>
      rcases q with ⟨s, h1, h2⟩ | ⟨m, h1, h2⟩
      · cases h1
      · cases h1; exact .inr ⟨n, rfl, h2⟩⟩⟩
theorem PBw.pb {f : BF} (h : PBw X H0 W e f) : PB X H0 W e f := ⟨h.pw.pt⟩
theorem pbAnd1 {f : BF} (h : PB X H0 W a f) : PBw X H0 W (.BoolOp .And [a] pos) f := ⟨pw_and1 h.pt⟩
theorem pbOr1 {f : BF} (h : PB X H0 W a f) : PBw X H0 W (.BoolOp .Or [a] pos) f := ⟨pw_or1 h.pt⟩
theorem pwWeak {t t' : TT} (h : PW X e t) (i : ∀ σ H Q, t' σ H Q → t σ H Q) : PW X e t' := ⟨fun w pins s σ H Q I q => h.run w pins s σ H Q I (i σ H Q q)⟩
theorem pbAnd {f g : BF} {rest : List Expr} (ha : PB X H0 W a f) (hb : PBw X H0 W (.BoolOp .And (b :: rest) pos) g) : PBw X H0 W (.BoolOp .And (a :: b :: rest) pos) (bAnd f g) := ⟨pwWeak (pw_and ha.pt hb.pw) fun σ H Q ⟨B, ρ, E, q⟩ => ⟨B, ρ, E, by
  unfold bAnd at q
  cases r : f ρ with
  | none => rw [r] at q; rcases q with ⟨s, h1, h2⟩ | ⟨m, h1, h2⟩ <;> cases h1
  | some o =>
    rw [r] at q
    cases o with
    | ok b =>
      cases b with
      | true => exact .inl ⟨true, rfl, fun B' H' n => ⟨B', ρ, E.nx n, q.nx n⟩⟩
      | false =>
        rcases q with ⟨s, h1, h2⟩ | ⟨m, h1, h2⟩
        · cases h1; exact .inl ⟨false, rfl, h2⟩
        · cases h1
    | ex n =>
      rcases q with ⟨s, h1, h2⟩ | ⟨m, h1, h2⟩
      · cases h1
      · cases h1; exact .inr ⟨n, rfl, h2⟩⟩⟩
theorem pbOr {f g : BF} {rest : List Expr} (ha : PB X H0 W a f) (hb : PBw X H0 W (.BoolOp .Or (b :: rest) pos) g) : PBw X H0 W (.BoolOp .Or (a :: b :: rest) pos) (bOr f g) := ⟨pwWeak (pw_or ha.pt hb.pw) fun σ H Q ⟨B, ρ, E, q⟩ => ⟨B, ρ, E, by
  unfold bOr at q
  cases r : f ρ with
  | none => rw [r] at q; rcases q with ⟨s, h1, h2⟩ | ⟨m, h1, h2⟩ <;> cases h1
  | some o =>
    rw [r] at q
    cases o with
    | ok b =>
      cases b with
      | false => exact .inl ⟨false, rfl, fun B' H' n => ⟨B', ρ, E.nx n, q.nx n⟩⟩
      | true =>
        rcases q with ⟨s, h1, h2⟩ | ⟨m, h1, h2⟩
        · cases h1; exact .inl ⟨true, rfl, h2⟩
        · cases h1
    | ex n =>
      rcases q with ⟨s, h1, h2⟩ | ⟨m, h1, h2⟩
      · cases h1
      · cases h1; exact .inr ⟨n, rfl, h2⟩⟩⟩
/-- and, or of bools as values -/
def eAnd (f g : EF) : EF := fun ρ => PL.bz (f ρ) fun x => match dat x with
  | some (.bool true) => g ρ
  | some (.bool false) => some (.ok (.val true (.bool false)))
  | _ => none
def eOr (f g : EF) : EF := fun ρ => PL.bz (f ρ) fun x => match dat x with
  | some (.bool false) => g ρ
  | some (.bool true) => some (.ok (.val true (.bool true)))
  | _ => none
theorem okNone {Q : VK} (h : OK K mg H0 W B H σ none Q) : False := by rcases h with ⟨s, h1, h2⟩ | ⟨m, h1, h2⟩ <;> cases h1
theorem pdOne {op : BoolOp} (h : PD X H0 W a f) : PD X H0 W (.BoolOp op [a] pos) f := ⟨pe_one h.pe⟩
theorem pdAndV {rest : List Expr} (ha : PD X H0 W a f) (hb : PD X H0 W (.BoolOp .And (b :: rest) pos) g) : PD X H0 W (.BoolOp .And (a :: b :: rest) pos) (eAnd f g) := ⟨peWeak (pe_and ha.z hb.pe) fun σ H Q ⟨B, ρ, E, q⟩ => ⟨B, ρ, E, OK.bz q fun x v B1 H1 n1 r1 q1 => by
  split at q1
  · rename_i hd
    exact ⟨true, (r1.data n1.bh hd).blV, by rw [if_pos rfl]; exact ⟨B1, ρ, E.nx n1, q1⟩⟩
  · rename_i hd
    refine ⟨false, (r1.data n1.bh hd).blV, ?_⟩
    rw [if_neg Bool.false_ne_true]
    rcases q1 with ⟨s, h1, h2⟩ | ⟨m, h1, h2⟩
    · cases h1; exact h2.bl n1.bh
    · cases h1
  · exact (okNone q1).elim⟩⟩
theorem pdOrV {rest : List Expr} (ha : PD X H0 W a f) (hb : PD X H0 W (.BoolOp .Or (b :: rest) pos) g) : PD X H0 W (.BoolOp .Or (a :: b :: rest) pos) (eOr f g) := ⟨peWeak (pe_or ha.z hb.pe) fun σ H Q ⟨B, ρ, E, q⟩ => ⟨B, ρ, E, OK.bz q fun x v B1 H1 n1 r1 q1 => by
  split at q1
  · rename_i hd
    exact ⟨false, (r1.data n1.bh hd).blV, by rw [if_neg Bool.false_ne_true]; exact ⟨B1, ρ, E.nx n1, q1⟩⟩
  · rename_i hd
    refine ⟨true, (r1.data n1.bh hd).blV, ?_⟩
    rw [if_pos rfl]
    rcases q1 with ⟨s, h1, h2⟩ | ⟨m, h1, h2⟩
    · cases h1; exact h2.bl n1.bh
    · cases h1
  · exact (okNone q1).elim⟩⟩
def eNot (f : EF) : EF := fun ρ => PL.bz (f ρ) fun x => match dat x with
  | some (.bool b) => some (.ok (.val true (.bool (!b))))
  | _ => none
theorem pdNot (ha : PD X H0 W a f) : PD X H0 W (.UnaryOp .Not a pos) (eNot f) := ⟨peWeak (pe_not ha.z) fun σ H Q ⟨B, ρ, E, q⟩ => ⟨B, ρ, E, OK.bz q fun x v B1 H1 n1 r1 q1 => by
  split at q1
  · rename_i b hd
    refine ⟨b, (r1.data n1.bh hd).blV, ?_⟩
    rcases q1 with ⟨s, h1, h2⟩ | ⟨m, h1, h2⟩
    · cases h1; exact h2.bl n1.bh
    · cases h1
  · exact (okNone q1).elim⟩⟩
def eIf (t : BF) (f g : EF) : EF := fun ρ => match t ρ with
  | some (.ok true) => f ρ
  | some (.ok false) => g ρ
  | some (.ex n) => some (.ex n)
  | none => none
theorem pdIf {t : BF} (hc : PB X H0 W c t) (ha : PD X H0 W a f) (hb : PD X H0 W b g) : PD X H0 W (.IfExp c a b pos) (eIf t f g) := ⟨peWeak (pe_ifExp hc.pt ha.pe hb.pe) fun σ H Q ⟨B, ρ, E, q⟩ => ⟨B, ρ, E, by
  unfold eIf at q
  cases r : t ρ with
  | none => rw [r] at q; exact (okNone q).elim
  | some o =>
    rw [r] at q
    cases o with
    | ok b =>
      refine .inl ⟨b, rfl, fun B' H' n => ?_⟩
      cases b with
      | true => rw [if_pos rfl]; exact ⟨B', ρ, E.nx n, q.nx n⟩
      | false => rw [if_neg Bool.false_ne_true]; exact ⟨B', ρ, E.nx n, q.nx n⟩
    | ex n =>
      rcases q with ⟨s, h1, h2⟩ | ⟨m, h1, h2⟩
      · cases h1
      · cases h1; exact .inr ⟨n, rfl, h2⟩⟩⟩
/-- a op b op' c -/
def eChain (G G' : PyData → PyData → Option PyData) (f g k : EF) : EF := fun ρ => PL.bz (f ρ) fun x => PL.bz (g ρ) fun y => match fD G x y with
  | some (.val _ (.bool true)) => PL.bz (k ρ) fun z => okO (fD G' y z)
  | some (.val _ (.bool false)) => some (.ok (.val true (.bool false)))
  | _ => none
theorem fD_some {G : PyData → PyData → Option PyData} {x y s : Sl} (h : fD G x y = some s) : ∃ d e r, dat x = some d ∧ dat y = some e ∧ G d e = some r ∧ PL.scal r = true ∧ s = .val true r := by
  unfold fD at h
  split at h
  · rename_i d hd
    split at h
    · rename_i d' hd'
      split at h
      · rename_i r hr
        split at h
        · rename_i hs
          cases h
          exact ⟨d, d', r, hd, hd', hr, hs, rfl⟩
        · cases h
      · cases h
    · cases h
  · cases h
theorem chain_ok {G G' : PyData → PyData → Option PyData} {B : Hp} {ρ : Ev} {Q : VK} (E : ER X.K H0 B H σ ρ) (q : OK X.K X.mg H0 W B H σ (eChain G G' f g k ρ) Q) :
    OKZ X.K X.mg H0 W B H σ (f ρ) fun v H1 => tZ X.K X.mg H0 W g σ H1 fun w H2 => rD X.K G v w H2 fun z H3 => ∃ b, z = .bl b ∧ if b = true then tZ X.K X.mg H0 W k σ H3 fun u H4 => rD X.K G' w u H4 Q else Q (.bl false) H3 := by
  refine OK.bz q fun x v B1 H1 n1 r1 q1 => ⟨B1, ρ, E.nx n1, OK.bz q1 fun y w B2 H2 n2 r2 q2 => ?_⟩
  have E2 := (E.nx n1).nx n2
  split at q2
  · rename_i fr he
    obtain ⟨d, d', r, h1, h2, h3, h4, h5⟩ := fD_some he
    cases h5
    refine ⟨d, d', _, (r1.mono n2).data E2.eB h1, r2.data E2.eB h2, h3, rfl, true, rfl, ?_⟩
    rw [if_pos rfl]
    refine ⟨B2, ρ, E2, OK.bz q2 fun z u B3 H3 n3 r3 q3 => ?_⟩
    have E3 := E2.nx n3
    obtain ⟨s, g1, g2⟩ := OK.okO q3
    exact op2D G' B3 H3 y z w u s Q E3.e0 E3.eB (r2.mono n3) r3 g1 g2
  · rename_i fr he
    obtain ⟨d, d', r, h1, h2, h3, h4, h5⟩ := fD_some he
    cases h5
    refine ⟨d, d', _, (r1.mono n2).data E2.eB h1, r2.data E2.eB h2, h3, rfl, false, rfl, ?_⟩
    rw [if_neg Bool.false_ne_true]
    rcases q2 with ⟨s, h1, h2⟩ | ⟨m, h1, h2⟩
    · cases h1; exact h2.bl E2.eB
    · cases h1
  · exact (okNone q2).elim
theorem pdChain {op op' : CmpOp} {G G' : PyData → PyData → Option PyData} (ho : OpR X (compareOp op) (rD X.K G)) (ho' : OpR X (compareOp op') (rD X.K G')) (ha : PD X H0 W a f) (hb : PD X H0 W b g) (hc : PD X H0 W c k)
    (hm : lastMarks [op, op'] [b, c] = false := by with_unfolding_all rfl) : PD X H0 W (.Compare a [op, op'] [b, c] pos) (eChain G G' f g k) := ⟨peWeak (pe_chain ho ho' ha.z hb.z hc.z hm) fun σ H Q ⟨B, ρ, E, q⟩ => ⟨B, ρ, E, chain_ok E q⟩⟩
theorem pbChain {op op' : CmpOp} {G G' : PyData → PyData → Option PyData} (ho : OpR X (compareOp op) (rD X.K G)) (ho' : OpR X (compareOp op') (rD X.K G')) (ha : PD X H0 W a f) (hb : PD X H0 W b g) (hc : PD X H0 W c k)
    (hm : lastMarks [op, op'] [b, c] = false := by with_unfolding_all rfl) : PB X H0 W (.Compare a [op, op'] [b, c] pos) (bOf (eChain G G' f g k)) := ⟨ptWeak (pt_chain ho ho' ha.z hb.z hc.z hm) fun σ H Q ⟨B, ρ, E, q⟩ => ⟨B, ρ, E, chain_ok E (bof_ok q)⟩⟩
end

/-! ### argument lists -/
inductive Ra where
  | ok (ss : List Sl)
  | ex (n : Str)
def evs : List EF → Ev → Option Ra
  | [], _ => some (.ok [])
  | f :: fs, ρ => match f ρ with
    | some (.ok s) => match evs fs ρ with
      | some (.ok ss) => some (.ok (frz s :: ss))
      | r => r
    | some (.ex n) => some (.ex n)
    | none => none
inductive RZs (K : PySem.W.Frag) (H0 : En) (B H : Hp) : List V → List Sl → Prop
  | nil : RZs K H0 B H [] []
  | cons {v : V} {vs : List V} {s : Sl} {ss : List Sl} : RZ K H0 B H v s → RZs K H0 B H vs ss → RZs K H0 B H (v :: vs) (s :: ss)
theorem RZs.mono {K : PySem.W.Frag} {H0 : En} {B H B' H' : Hp} (n : Nx B H B' H') : ∀ {vs : List V} {ss : List Sl}, RZs K H0 B H vs ss → RZs K H0 B' H' vs ss
  | _, _, .nil => .nil
  | _, _, .cons r rs => .cons (r.mono n) (RZs.mono n rs)
def OKA (K : PySem.W.Frag) (mg : Str → Option Value) (H0 : En) (W : WX) (B H : Hp) (σ : L2.St) (o : Option Ra) (Q : List V → Hp → Prop) : Prop :=
  (∃ ss, o = some (.ok ss) ∧ ∀ vs B' H', Nx B H B' H' → RZs K H0 B' H' vs ss → Q vs H') ∨ ∃ n, o = some (.ex n) ∧ KX mg B H σ W n
def tAs (K : PySem.W.Frag) (mg : Str → Option Value) (H0 : En) (W : WX) (fs : List EF) : TA := fun σ H Q => ∃ B ρ, ER K H0 B H σ ρ ∧ OKA K mg H0 W B H σ (evs fs ρ) Q
structure PDs (X : Cx) (H0 : En) (W : WX) (es : List Expr) (fs : List EF) : Prop where
  pa : PA X es (tAs X.K X.mg H0 W fs)
section
variable {X : Cx} {H0 : En} {W : WX} {e a b c : Expr} {es : List Expr} {f g k : EF} {fs : List EF} {pos : Pos} {K : PySem.W.Frag} {B H B' H' : Hp} {σ : L2.St} {mg : Str → Option Value}
theorem pdsNil : PDs X H0 W [] [] := ⟨paWeak pa_nil fun σ H Q ⟨B, ρ, E, q⟩ => by
  rcases q with ⟨ss, h1, h2⟩ | ⟨n, h1, h2⟩
  · cases h1; exact h2 [] B H E.nx0 .nil
  · cases h1⟩
theorem pdsCons (ha : PD X H0 W e f) (hr : PDs X H0 W es fs) (hs : starEach (e :: es) X.env = (false, eval e X.env) :: starEach es X.env := by rfl) : PDs X H0 W (e :: es) (f :: fs) := ⟨paWeak (pa_cons ha.z hr.pa hs) fun σ H Q ⟨B, ρ, E, q⟩ => ⟨B, ρ, E, by
  have q' : OKA X.K X.mg H0 W B H σ (match f ρ with
    | some (.ok s) => match evs fs ρ with
      | some (.ok ss) => some (.ok (frz s :: ss))
      | r => r
    | some (.ex n) => some (.ex n)
    | none => none) Q := q
  cases r : f ρ with
  | none => rw [r] at q'; rcases q' with ⟨s, h1, h2⟩ | ⟨m, h1, h2⟩ <;> cases h1
  | some o =>
    rw [r] at q'
    cases o with
    | ex n =>
      rcases q' with ⟨s, h1, h2⟩ | ⟨m, h1, h2⟩
      · cases h1
      · cases h1; exact .inr ⟨n, rfl, h2⟩
    | ok s =>
      refine .inl ⟨s, rfl, fun v B1 H1 n1 r1 => ⟨B1, ρ, E.nx n1, ?_⟩⟩
      dsimp only at q'
      cases r2 : evs fs ρ with
      | none => rw [r2] at q'; rcases q' with ⟨s, h1, h2⟩ | ⟨m, h1, h2⟩ <;> cases h1
      | some o2 =>
        rw [r2] at q'
        cases o2 with
        | ex n =>
          rcases q' with ⟨s, h1, h2⟩ | ⟨m, h1, h2⟩
          · cases h1
          · cases h1; exact .inr ⟨n, rfl, h2.nx n1⟩
        | ok ss =>
          rcases q' with ⟨s', h1, h2⟩ | ⟨m, h1, h2⟩
          · cases h1
            exact .inl ⟨ss, rfl, fun vs B2 H2 n2 rs => h2 (v :: vs) B2 H2 (n1.trans n2) (.cons (r1.mono n2) rs)⟩
          · cases h1⟩⟩
def bzs (r : Option Ra) (k : List Sl → Option Rs) : Option Rs :=
  match r with
  | some (.ok ss) => k ss
  | some (.ex n) => some (.ex n)
  | none => none
theorem OK.bzs {r : Option Ra} {k : List Sl → Option Rs} {Q : VK} {R : List V → Hp → Prop} (h : OK K mg H0 W B H σ (PL.bzs r k) Q)
    (c : ∀ (ss : List Sl) (vs : List V) (B' H' : Hp), Nx B H B' H' → RZs K H0 B' H' vs ss → OK K mg H0 W B' H' σ (k ss) Q → R vs H') : OKA K mg H0 W B H σ r R := by
  cases r with
  | none => exact (okNone h).elim
  | some o =>
    cases o with
    | ok ss => exact .inl ⟨ss, rfl, fun vs B' H' n rz => c ss vs B' H' n rz (OK.nx h n)⟩
    | ex m =>
      rcases h with ⟨s, h1, h2⟩ | ⟨m', h1, h2⟩
      · cases h1
      · cases h1; exact .inr ⟨m, rfl, h2⟩
/-- what may be put into a new object: its freshness, its data -/
def stor : Sl → Option (Bool × PyData)
  | .val fr d => some (fr || scal d, d)
  | .brf d => if scal d = true then some (true, d) else none
  | _ => none
def stors : List Sl → Option (Bool × List PyData)
  | [] => some (true, [])
  | s :: ss => match stor s with
    | some (f, d) => match stors ss with
      | some (g, ds) => some (f && g, d :: ds)
      | none => none
    | none => none
theorem RZ.stor {v : V} {s : Sl} {fr : Bool} {d : PyData} (r : RZ K H0 B H v s) (h : PL.stor s = some (fr, d)) : Rep (LF K H0 B fr) v d := by
  cases s with
  | val f d' =>
    cases h
    cases f with
    | true => exact r
    | false =>
      rw [Bool.false_or]
      cases hs : PL.scal d with
      | true => exact Rep.scal r hs
      | false => exact r
  | brf d' =>
    unfold PL.stor at h
    dsimp only at h
    split at h
    · rename_i hs; cases h; exact Rep.scal r hs
    · cases h
  | und => cases h
  | own _ _ => cases h
  | full _ => cases h
  | bor _ _ => cases h
theorem RZs.stors : ∀ {vs : List V} {ss : List Sl} {fr : Bool} {ds : List PyData}, RZs K H0 B H vs ss → PL.stors ss = some (fr, ds) → RepAll (LF K H0 B fr) vs ds
  | _, _, _, _, .nil, h => by cases h; exact .nil
  | _, _, fr, ds, .cons (s := s) (ss := ss) r rs, h => by
    unfold PL.stors at h
    split at h
    · rename_i f d hd
      split at h
      · rename_i g ds' hds
        cases h
        exact .cons ((r.stor hd).mono LF.and1) ((RZs.stors rs hds).mono LF.and2)
      · cases h
    · cases h
def eList (fs : List EF) : EF := fun ρ => PL.bzs (evs fs ρ) fun ss => match PL.stors ss with
  | some (fr, ds) => if ds.length ≤ 16777216 then some (.ok (.own fr ds)) else none
  | none => none
def eTup (fs : List EF) : EF := fun ρ => PL.bzs (evs fs ρ) fun ss => match PL.stors ss with
  | some (fr, ds) => if ds.length ≤ 16777216 then some (.ok (.val fr (.tuple ds))) else none
  | none => none
theorem pdList (h : PDs X H0 W es fs) : PD X H0 W (.List es pos) (eList fs) := ⟨peWeak (pe_lst h.pa) fun σ H Q ⟨B, ρ, E, q⟩ => ⟨B, ρ, E, OK.bzs q fun ss vs B1 H1 n1 r1 q1 => by
  split at q1
  · rename_i fr ds hd
    split at q1
    · rename_i hz
      rcases q1 with ⟨s, h1, h2⟩ | ⟨m, h1, h2⟩
      · cases h1
        have ra := r1.stors hd
        exact ⟨by rw [sizeLine_eq, ra.length]; exact hz, fun p hp => h2.new n1.bh ra hp⟩
      · cases h1
    · exact (okNone q1).elim
  · exact (okNone q1).elim⟩⟩
theorem pdTup {x1 : Nat} (h : PDs X H0 W es fs) : PD X H0 W (.Tuple es x1 pos) (eTup fs) := ⟨peWeak (pe_tup h.pa) fun σ H Q ⟨B, ρ, E, q⟩ => ⟨B, ρ, E, OK.bzs q fun ss vs B1 H1 n1 r1 q1 => by
  split at q1
  · rename_i fr ds hd
    split at q1
    · rename_i hz
      rcases q1 with ⟨s, h1, h2⟩ | ⟨m, h1, h2⟩
      · cases h1
        have ra := r1.stors hd
        exact ⟨by rw [sizeLine_eq, ra.length]; exact hz, fun p hp => h2.tup (E.nx n1).e0 n1.bh ra hp⟩
      · cases h1
    · exact (okNone q1).elim
  · exact (okNone q1).elim⟩⟩

/-! ### subscripts -/
/-- an item: what is told of it -/
def mkb (d : PyData) : Sl := if scal d = true then .val true d else .brf d
def fIx (x y : Sl) : Option Sl :=
  match dat y with
  | some (.int i) => match lstR x with
    | some (fr, ds) => (atI ds i).map (mkv fr)
    | none => match tupD x with
      | some (fr, ds) => (atI ds i).map (mkv fr)
      | none => match x with
        | .brf (.list ds) => (atI ds i).map mkb
        | .brf (.tuple ds) => (atI ds i).map mkb
        | .val _ (.str z) => if z.length ≤ 16777216 then (atI z.cps.toList i).map fun c => .val true (.str ⟨#[c]⟩) else none
        | _ => none
  | _ => none
theorem atI_rep {L : Addr → HO → Prop} {vs : List V} {ds : List PyData} {i : Int} {d : PyData} (r : RepAll L vs ds) (h : atI ds i = some d) : ∃ v, atI vs i = some v ∧ Rep L v d := by
  unfold atI at h ⊢
  rw [r.length]
  cases q : ixN ds.length i with
  | none => rw [q] at h; cases h
  | some j =>
    rw [q] at h
    obtain ⟨v, h1, h2⟩ := r.at h
    exact ⟨v, h1, h2⟩
theorem mkv_rep {v : V} {fr : Bool} {d : PyData} (r : Rep (LF K H0 B fr) v d) : RR K H0 B H emp v (mkv fr d) := by
  show Rep (LF K H0 B (fr || scal d)) v d
  cases fr with
  | true => exact r
  | false =>
    rw [Bool.false_or]
    cases hs : scal d with
    | true => exact Rep.scal r hs
    | false => exact r
theorem mkb_rep {v : V} {d : PyData} (r : Rep (LN H) v d) : RR K H0 B H emp v (mkb d) := by
  unfold mkb
  split
  · rename_i hs; exact Rep.scal r hs
  · exact r
theorem op2Ix : Op2 X H0 (rIx X.K) fIx := by
  intro B H x y v w s Q e0 eB r1 r2 hf hq
  unfold fIx at hf
  split at hf
  · rename_i i hi
    have hw := (r2.data eB hi).intV
    split at hf
    · rename_i fr ds hd
      obtain ⟨p, vs, rfl, s1, a1⟩ := r1.lstR eB hd
      cases ha : atI ds i with
      | none => rw [ha] at hf; cases hf
      | some d =>
        rw [ha] at hf; cases hf
        obtain ⟨z, h1, h2⟩ := atI_rep a1 ha
        exact .inl ⟨p, vs, i, z, rfl, hw, s1, h1, hq.same eB (mkv_rep h2)⟩
    · split at hf
      · rename_i fr ds hd
        obtain ⟨p, vs, rfl, s1, a1⟩ := r1.tup eB hd
        cases ha : atI ds i with
        | none => rw [ha] at hf; cases hf
        | some d =>
          rw [ha] at hf; cases hf
          obtain ⟨z, h1, h2⟩ := atI_rep a1 ha
          exact .inr (.inl ⟨p, vs, i, z, rfl, hw, s1, h1, hq.same eB (mkv_rep h2)⟩)
      · split at hf
        · rename_i ds _ _
          cases ha : atI ds i with
          | none => rw [ha] at hf; cases hf
          | some d =>
            rw [ha] at hf; cases hf
            obtain ⟨p, vs, rfl, h1, h2⟩ := Rep.lstV r1
            obtain ⟨z, h3, h4⟩ := atI_rep h2 ha
            exact .inl ⟨p, vs, i, z, rfl, hw, SqL.of h1, h3, hq.same eB (mkb_rep h4)⟩
        · rename_i ds _ _
          cases ha : atI ds i with
          | none => rw [ha] at hf; cases hf
          | some d =>
            rw [ha] at hf; cases hf
            obtain ⟨p, vs, rfl, h1, h2⟩ := Rep.tupV r1
            obtain ⟨z, h3, h4⟩ := atI_rep h2 ha
            exact .inr (.inl ⟨p, vs, i, z, rfl, hw, SqT.of h1, h3, hq.same eB (mkb_rep h4)⟩)
        · rename_i fr z _ _
          split at hf
          · rename_i hz
            cases ha : atI z.cps.toList i with
            | none => rw [ha] at hf; cases hf
            | some c =>
              rw [ha] at hf; cases hf
              exact .inr (.inr ⟨z, i, c, Rep.strV r1, hw, by rw [sizeLine_eq]; exact hz, ha, hq.str eB⟩)
          · cases hf
        · cases hf
  · cases hf
theorem pdIx (ha : PD X H0 W a f) (hb : PD X H0 W b g) (hs : PlainIx b := by exact fun _ _ => rfl) : PD X H0 W (.Subscript a b pos) (e2 fIx f g) := pd2 ha hb op2Ix fun pa pb => pe_ix ix_seq pa pb hs

/-! ### slices -/
inductive Rp where
  | ok (o : Option Int)
  | ex (n : Str)
abbrev PF := Ev → Option Rp
def OKP (K : PySem.W.Frag) (mg : Str → Option Value) (W : WX) (B H : Hp) (σ : L2.St) (o : Option Rp) (Q : Option Int → Hp → Prop) : Prop :=
  (∃ b, o = some (.ok b) ∧ ∀ B' H', Nx B H B' H' → Q b H') ∨ ∃ n, o = some (.ex n) ∧ KX mg B H σ W n
def tO (K : PySem.W.Frag) (mg : Str → Option Value) (H0 : En) (W : WX) (f : PF) : TO := fun σ H Q => ∃ B ρ, ER K H0 B H σ ρ ∧ OKP K mg W B H σ (f ρ) Q
structure PP (X : Cx) (H0 : En) (W : WX) (o : Option Expr) (f : PF) : Prop where
  po : PO X o (tO X.K X.mg H0 W f)
theorem poWeak {o : Option Expr} {t t' : TO} (h : PO X o t) (i : ∀ σ H Q, t' σ H Q → t σ H Q) : PO X o t' := ⟨fun pins s σ H Q I q => h.run pins s σ H Q I (i σ H Q q)⟩
def pN : PF := fun _ => some (.ok none)
def pS (f : EF) : PF := fun ρ => match f ρ with
  | some (.ok s) => match dat (frz s) with
    | some (.int i) => some (.ok (some i))
    | _ => none
  | some (.ex n) => some (.ex n)
  | none => none
theorem ppN : PP X H0 W none pN := ⟨poWeak po_none fun σ H Q ⟨B, ρ, E, q⟩ => by
  rcases q with ⟨b, h1, h2⟩ | ⟨m, h1, h2⟩
  · cases h1; exact h2 B H E.nx0
  · cases h1⟩
theorem ppS (h : PD X H0 W e f) : PP X H0 W (some e) (pS f) := ⟨poWeak (po_some h.z) fun σ H Q ⟨B, ρ, E, q⟩ => ⟨B, ρ, E, by
  unfold pS at q
  cases r : f ρ with
  | none => rw [r] at q; rcases q with ⟨s, h1, h2⟩ | ⟨m, h1, h2⟩ <;> cases h1
  | some o =>
    rw [r] at q
    cases o with
    | ex n =>
      rcases q with ⟨s, h1, h2⟩ | ⟨m, h1, h2⟩
      · cases h1
      · cases h1; exact .inr ⟨n, rfl, h2⟩
    | ok s =>
      refine .inl ⟨s, rfl, fun v B1 H1 n1 r1 => ?_⟩
      dsimp only at q
      split at q
      · rename_i i hi
        rcases q with ⟨b, h1, h2⟩ | ⟨m, h1, h2⟩
        · cases h1
          exact ⟨i, (r1.data n1.bh hi).intV, h2 B1 H1 n1⟩
        · cases h1
      · rcases q with ⟨s, h1, h2⟩ | ⟨m, h1, h2⟩ <;> cases h1⟩⟩
def bp (r : Option Rp) (k : Option Int → Option Rs) : Option Rs :=
  match r with
  | some (.ok o) => k o
  | some (.ex n) => some (.ex n)
  | none => none
theorem OK.bp {r : Option Rp} {k : Option Int → Option Rs} {Q : VK} {R : Option Int → Hp → Prop} (h : OK K mg H0 W B H σ (PL.bp r k) Q)
    (c : ∀ (o : Option Int) (B' H' : Hp), Nx B H B' H' → OK K mg H0 W B' H' σ (k o) Q → R o H') : OKP K mg W B H σ r R := by
  cases r with
  | none => exact (okNone h).elim
  | some o =>
    cases o with
    | ok o => exact .inl ⟨o, rfl, fun B' H' n => c o B' H' n (OK.nx h n)⟩
    | ex m =>
      rcases h with ⟨s, h1, h2⟩ | ⟨m', h1, h2⟩
      · cases h1
      · cases h1; exact .inr ⟨m, rfl, h2⟩
def cutD (ds : List PyData) (lo hi : Option Int) : List PyData := (ds.drop (HT.sIx ds.length 0 lo)).take (HT.sIx ds.length ds.length hi - HT.sIx ds.length 0 lo)
theorem RepAll.cut {L : Addr → HO → Prop} {vs : List V} {ds : List PyData} (r : RepAll L vs ds) (lo hi : Option Int) : RepAll L (cutV vs lo hi) (cutD ds lo hi) := by
  unfold cutV cutD
  rw [r.length]
  exact (r.drop _).take _
def eSl (f : EF) (lo hi : PF) : EF := fun ρ => PL.bz (f ρ) fun x => PL.bp (lo ρ) fun l => PL.bp (hi ρ) fun h => match lstD x with
  | some (fr, ds) => some (.ok (.own fr (cutD ds l h)))
  | none => none
theorem pdSl {lo hi : Option Expr} {p2 : Pos} {l h : PF} (he : PD X H0 W e f) (hl : PP X H0 W lo l) (hh : PP X H0 W hi h) : PD X H0 W (.Subscript e (.Slice lo hi none p2) pos) (eSl f l h) := ⟨peWeak (pe_slice sl_list he.z hl.po hh.po) fun σ H Q ⟨B, ρ, E, q⟩ => ⟨B, ρ, E, OK.bz q fun x v B1 H1 n1 r1 q1 => ⟨B1, ρ, E.nx n1, OK.bp q1 fun l B2 H2 n2 q2 => ⟨B2, ρ, (E.nx n1).nx n2, OK.bp q2 fun h B3 H3 n3 q3 => by
  have r3 := (r1.mono n2).mono n3
  split at q3
  · rename_i fr ds hd
    obtain ⟨p, vs, rfl, s1, a1⟩ := r3.lst n3.bh hd
    rcases q3 with ⟨s, h1, h2⟩ | ⟨m, h1, h2⟩
    · cases h1
      exact ⟨p, vs, rfl, s1, fun q hq => h2.new n3.bh (a1.cut l h) hq⟩
    · cases h1
  · exact (okNone q3).elim⟩⟩⟩⟩
def fRev (x : Sl) : Option Sl := match lstD x with
  | some (fr, ds) => some (.own fr ds.reverse)
  | none => none
theorem pdRev {k : Nat} {p1 p2 p3 : Pos} (he : PD X H0 W e f) : PD X H0 W (.Subscript e (.Slice none none (some (.UnaryOp .USub (.Constant (.int 1) k p1) p2)) p3) pos) (e1 fRev f) := ⟨peWeak (pe_revL he.z) fun σ H Q ⟨B, ρ, E, q⟩ => ⟨B, ρ, E, OK.bz q fun x v B1 H1 n1 r1 q1 => by
  obtain ⟨s, h1, h2⟩ := OK.okO q1
  unfold fRev at h1
  split at h1
  · rename_i fr ds hd
    cases h1
    obtain ⟨p, vs, rfl, s1, a1⟩ := r1.lst n1.bh hd
    exact ⟨p, vs, rfl, s1, fun q hq => h2.new n1.bh a1.reverse hq⟩
  · cases h1⟩⟩

/-! ### calls of built-ins -/
def CB (X : Cx) (H0 : En) (r : List V → Hp → VK → Prop) (F : List Sl → Option Sl) : Prop := ∀ (B H : Hp) (ss : List Sl) (vs : List V) (s : Sl) (Q : VK), Same H0.H H → Same B H → RZs X.K H0 B H vs ss → F ss = some s → KQ X.K H0 B H s Q → r vs H Q
def eCB (F : List Sl → Option Sl) (fs : List EF) : EF := fun ρ => PL.bzs (evs fs ρ) fun ss => okO (F ss)
theorem pdCB {r : List V → Hp → VK → Prop} {F : List Sl → Option Sl} (ha : PDs X H0 W es fs) (ho : CB X H0 r F) (hp : ∀ {ta : TA}, PA X es ta → PE X e (tCB r ta)) : PD X H0 W e (eCB F fs) := ⟨peWeak (hp ha.pa) fun σ H Q ⟨B, ρ, E, q⟩ => ⟨B, ρ, E, OK.bzs q fun ss vs B1 H1 n1 r1 q1 => by
  obtain ⟨s, h1, h2⟩ := OK.okO q1
  exact ho B1 H1 ss vs s Q (E.nx n1).e0 n1.bh r1 h1 h2⟩⟩
/-- one datum in, a scalar out -/
def D1 (X : Cx) (f : Value) (g : PyData → Option PyData) : Prop :=
  ∀ (s : Shared) (u : Value) (d r : PyData) (as : List Addr) (Q : Value → Shared → Prop), Reads s.heap u d as → d.plain = true → g d = some r → scal r = true →
    (∀ z h' tk, (∀ b o, s.heap.get? b = some o → h'.get? b = some o) → RelV (vOf r) z → Q z { s with heap := h', toks := tk }) → wpAny (model X.prog X.w) X.A (call f [u]) Q X.xe s
def rD1 (K : PySem.W.Frag) (g : PyData → Option PyData) : List V → Hp → VK → Prop := fun vs H Q => ∃ x d r, vs = [x] ∧ Rep (LH K H) x d ∧ g d = some r ∧ scal r = true ∧ Q (vOf r) H
theorem D1.call {f : Value} {g : PyData → Option PyData} (h : D1 X f g) : CallR X f (rD1 X.K g) := by
  intro pins s σ H xs us Q I r ⟨x, d, y, e1, h1, h2, h3, q⟩
  subst e1
  obtain ⟨u, rfl, rx⟩ := vals1 r
  obtain ⟨as, r1⟩ := h1.reads I rx
  exact h s u d y as _ r1 h1.plain h2 h3 fun z h' tk hk hz => ⟨_, H, I.kept hk, hz, q⟩
def fD1 (g : PyData → Option PyData) (ss : List Sl) : Option Sl :=
  match ss with
  | [x] => match dat x with
    | some d => match g d with
      | some r => if scal r = true then some (.val true r) else none
      | none => none
    | none => none
  | _ => none
theorem cbD1 (g : PyData → Option PyData) : CB X H0 (rD1 X.K g) (fD1 g) := by
  intro B H ss vs s Q e0 eB r hf hq
  unfold fD1 at hf
  split at hf
  · rename_i x
    cases r with
    | cons r rs =>
      cases rs
      split at hf
      · rename_i d hd
        split at hf
        · rename_i y hy
          split at hf
          · rename_i hs
            cases hf
            exact ⟨_, d, y, rfl, r.data eB hd, hy, hs, hq.scal eB hs⟩
          · cases hf
        · cases hf
      · cases hf
  · cases hf
theorem cr1 {f : Value} {r : List V → Hp → VK → Prop} {g : PyData → Option PyData} (h : CallR X f r) (i : ∀ K H x d y (Q : VK), K = X.K → Rep (LH K H) x d → g d = some y → Q (vOf y) H → r [x] H Q) : CallR X f (rD1 X.K g) := by
  intro pins s σ H xs us Q I rv ⟨x, d, y, e1, h1, h2, h3, q⟩
  subst e1
  exact h pins s σ H [x] us Q I rv (i _ H x d y Q rfl h1 h2 q)
def gLen (d : PyData) : Option PyData := match d with
  | .list xs => some (.int xs.length)
  | .tuple xs => some (.int xs.length)
  | .str x => if x.length ≤ 16777216 then some (.int x.length) else none
  | _ => none
theorem crLen : CallR X (.builtin "len") (rD1 X.K gLen) := cr1 (call_len_seq.or call_len_str) fun K H x d y Q e r h q => by
  subst e
  cases r with
  | lst e r => cases h; exact .inl ⟨_, _, rfl, .inl e, by rw [r.length]; exact q⟩
  | tup e r => cases h; exact .inl ⟨_, _, rfl, .inr e, by rw [r.length]; exact q⟩
  | str x =>
    unfold gLen at h
    dsimp only at h
    split at h
    · rename_i hz; cases h; exact .inr ⟨x, rfl, by rw [sizeLine_eq]; exact hz, q⟩
    · cases h
  | non => cases h
  | bl _ => cases h
  | int _ => cases h
def gAbs (d : PyData) : Option PyData := match d with | .int i => some (.int (if i < 0 then -i else i)) | _ => none
theorem crAbs : CallR X (.builtin "abs") (rD1 X.K gAbs) := cr1 call_abs fun K H x d y Q e r h q => by
  cases r <;> first | cases h | skip
  exact ⟨_, rfl, q⟩
def gInt (d : PyData) : Option PyData := match d with | .int i => some (.int i) | .bool b => some (.int (if b then 1 else 0)) | _ => none
theorem crInt : CallR X (.type "int") (rD1 X.K gInt) := cr1 call_int1 fun K H x d y Q e r h q => by
  cases r <;> first | cases h | skip
  · exact .inr ⟨_, rfl, q⟩
  · exact .inl ⟨_, rfl, q⟩
/-- repr -/
def gRepr (d : PyData) : Option PyData := if d.showable = true ∧ d.depth ≤ 60 ∧ d.shown.length ≤ 16777216 then some (.str d.shown) else none
theorem noDict_of_plain : ∀ d : PyData, d.plain = true → d.hasDict = false := by
  intro d
  exact PyData.rec (motive_1 := fun d => d.plain = true → d.hasDict = false) (motive_2 := fun ds => PyData.plainAll ds = true → PyData.hasDictAll ds = false) (motive_3 := fun _ => True) (motive_4 := fun _ => True)
    (fun _ => by simp [PyData.hasDict]) (fun _ _ => by simp [PyData.hasDict]) (fun _ _ => by simp [PyData.hasDict]) (fun _ _ => by simp [PyData.hasDict])
    (fun xs ih h => by simp only [PyData.hasDict]; exact ih (by simpa [PyData.plain] using h)) (fun xs ih h => by simp only [PyData.hasDict]; exact ih (by simpa [PyData.plain] using h)) (fun kvs _ h => by cases h)
    (fun _ => by simp [PyData.hasDictAll]) (fun x xs ih1 ih2 h => by
      have h' : x.plain = true ∧ PyData.plainAll xs = true := by simpa [PyData.plainAll] using h
      simp only [PyData.hasDictAll, ih1 h'.1, ih2 h'.2, Bool.or_self]) trivial (fun _ _ _ _ => trivial) (fun _ _ _ _ => trivial) d
theorem d1Repr {k : Nat} (hr : Room k X.A) (hg : X.A.guards = some []) : D1 X (.builtin "repr") gRepr := by
  intro s u d r as Q r1 p1 h hs q
  unfold gRepr at h
  split at h
  · rename_i hz
    cases h
    have hu := hr.units
    have hsz : d.shown.length ≤ sizeLine := by rw [sizeLine_eq]; exact hz.2.2
    cases r1 with
    | list a b c e => exact repr_of_reads' (.list a b c e) hz.1 (PyData.noDict_hsm (noDict_of_plain _ p1)) hg (by have := hz.2.1; omega) (fun _ _ e => e) (fun h' u tk hk => q _ h' tk hk ⟨u, rfl⟩) hsz
    | tuple a b c e => exact repr_of_reads' (.tuple a b c e) hz.1 (PyData.noDict_hsm (noDict_of_plain _ p1)) hg (by have := hz.2.1; omega) (fun _ _ e => e) (fun h' u tk hk => q _ h' tk hk ⟨u, rfl⟩) hsz
    | none => exact PySem.P.repr_of_none (q _ s.heap _ (fun _ _ e => e) ⟨_, by rw [PyData.shown_none]⟩)
    | bool b => exact PySem.P.repr_of_bool (q _ s.heap _ (fun _ _ e => e) ⟨_, by rw [PyData.shown_bool]⟩)
    | int i t => exact PySem.P.repr_of_int (by simpa [PyData.showable] using hz.1) (q _ s.heap _ (fun _ _ e => e) ⟨_, by rw [PyData.shown_int]⟩)
    | str x t => exact PySem.P.repr_of_str (q _ s.heap _ (fun _ _ e => e) ⟨_, by rw [PyData.shown_str]⟩) (by rw [← PyData.shown_str]; exact hsz)
    | dict _ _ _ _ _ => cases p1
  · cases h
/-- isinstance(x, T) -/
def fIsa (g : PyData → Bool) (ss : List Sl) : Option Sl := match ss with
  | [x, _] => match dat x with
    | some d => some (.val true (.bool (g d)))
    | none => none
  | _ => none
end
end PL

/-! PL5: statements, loops. -/
namespace PL
open PySem PySem.Spec PyProof.Rows L2

/-! ### statements -/
inductive Out where
  | nx (ρ : Ev)
  | rt (s : Sl)
  | bk (ρ : Ev)
  | ct (ρ : Ev)
  | ex (n : Str) (ρ : Ev)
abbrev SF := Ev → Option Out
/-- what is wanted behind o, from (B, H) -/
def OUT (K : PySem.W.Frag) (mg : Str → Option Value) (H0 : En) (W : WX) (B : Hp) (o : Out) (D : Ends) : Prop :=
  match o with
  | .nx ρ => ∀ σ B' H', ER K H0 B' H' σ ρ → Same B B' → D.nx σ H'
  | .bk ρ => ∀ σ B' H', ER K H0 B' H' σ ρ → Same B B' → D.bk σ H'
  | .ct ρ => ∀ σ B' H', ER K H0 B' H' σ ρ → Same B B' → D.ct σ H'
  | .rt s => ∀ v σ ρ B' H' T, ER K H0 B' H' σ ρ → Same B B' → Same T H' → (∀ a, T a ≠ none → B' a = none ∧ H0.H a = none) → RR K H0 B' H' T v s → D.rt v H'
  | .ex n ρ => ∀ c σ B' H', mg n = some c → ER K H0 B' H' σ ρ → Same B B' → W c none σ H'
theorem OUT.same {K : PySem.W.Frag} {mg : Str → Option Value} {H0 : En} {W : WX} {B B' : Hp} {o : Out} {D : Ends} (h : OUT K mg H0 W B o D) (e : Same B B') : OUT K mg H0 W B' o D := by
  cases o with
  | nx ρ => exact fun σ B2 H2 E s => h σ B2 H2 E (e.trans s)
  | bk ρ => exact fun σ B2 H2 E s => h σ B2 H2 E (e.trans s)
  | ct ρ => exact fun σ B2 H2 E s => h σ B2 H2 E (e.trans s)
  | rt s => exact fun v σ ρ B2 H2 T E s t1 t2 r => h v σ ρ B2 H2 T E (e.trans s) t1 t2 r
  | ex n ρ => exact fun c σ B2 H2 hc E s => h c σ B2 H2 hc E (e.trans s)
def tS (K : PySem.W.Frag) (mg : Str → Option Value) (H0 : En) (W : WX) (f : SF) : TS := fun D σ H => ∃ B ρ o, ER K H0 B H σ ρ ∧ f ρ = some o ∧ OUT K mg H0 W B o D
structure PSD (X : Cx) (H0 : En) (W : WX) (st : Stmt) (f : SF) : Prop where
  ps : PS X st (tS X.K X.mg H0 W f)
structure PSDs (X : Cx) (H0 : En) (W : WX) (st : List Stmt) (f : SF) : Prop where
  pss : PSs X st (tS X.K X.mg H0 W f)
/-- the continuation of a statement's expression -/
def bS (r : Option Rs) (ρ : Ev) (k : Sl → Option Out) : Option Out :=
  match r with
  | some (.ok s) => k s
  | some (.ex n) => some (.ex n ρ)
  | none => none
def bSz (r : Option Rs) (ρ : Ev) (k : Sl → Option Out) : Option Out :=
  match r with
  | some (.ok s) => k (frz s)
  | some (.ex n) => some (.ex n ρ)
  | none => none
section
variable {X : Cx} {H0 : En} {W : WX} {e a b c : Expr} {es : List Expr} {f g k : EF} {fs : List EF} {pos : Pos} {K : PySem.W.Frag} {B H B' H' : Hp} {σ : L2.St} {mg : Str → Option Value} {ρ : Ev} {D : Ends} {st : Stmt} {sts rest : List Stmt} {F G : SF} {t : BF}
theorem kx_of (E : ER K H0 B H σ ρ) {n : Str} (h : OUT K mg H0 W B (.ex n ρ) D) : KX mg B H σ W n := fun c B' H' hc n' => h c σ B' H' hc (E.nx n') n'.b
theorem bS_ok {r : Option Rs} {kk : Sl → Option Out} {o : Out} {R : VK} (E : ER K H0 B H σ ρ) (h : bS r ρ kk = some o) (ho : OUT K mg H0 W B o D)
    (c : ∀ s v B' H' T, Nx B H B' H' → TF H B' H' T → RR K H0 B' H' T v s → kk s = some o → OUT K mg H0 W B' o D → R v H') : OK K mg H0 W B H σ r R := by
  cases r with
  | none => cases h
  | some q =>
    cases q with
    | ok s => exact .inl ⟨s, rfl, fun v B' H' T n t r => c s v B' H' T n t r h (ho.same n.b)⟩
    | ex n => cases h; exact .inr ⟨n, rfl, kx_of E ho⟩
theorem bSz_ok {r : Option Rs} {kk : Sl → Option Out} {o : Out} {R : VK} (E : ER K H0 B H σ ρ) (h : bSz r ρ kk = some o) (ho : OUT K mg H0 W B o D)
    (c : ∀ s v B' H', Nx B H B' H' → RZ K H0 B' H' v s → kk s = some o → OUT K mg H0 W B' o D → R v H') : OKZ K mg H0 W B H σ r R := by
  cases r with
  | none => cases h
  | some q =>
    cases q with
    | ok s => exact .inl ⟨s, rfl, fun v B' H' n r => c (frz s) v B' H' n r h (ho.same n.b)⟩
    | ex n => cases h; exact .inr ⟨n, rfl, kx_of E ho⟩

/-! ### blocks -/
def sNil : SF := fun ρ => some (.nx ρ)
def sSeq (f g : SF) : SF := fun ρ => match f ρ with
  | some (.nx ρ') => g ρ'
  | r => r
theorem psdsNil : PSDs X H0 W [] sNil := ⟨pssWeak pss_nil fun D σ H ⟨B, ρ, o, E, h, ho⟩ => by cases h; exact ho σ B H E (Same.refl _)⟩
theorem seq_out {o : Out} (h : sSeq F G ρ = some o) (ho : OUT K mg H0 W B o D) : ∃ o1, F ρ = some o1 ∧ OUT K mg H0 W B o1 { D with nx := tS K mg H0 W G D } := by
  unfold sSeq at h
  cases r : F ρ with
  | none => rw [r] at h; cases h
  | some o1 =>
    rw [r] at h
    refine ⟨o1, rfl, ?_⟩
    cases o1 with
    | nx ρ' => exact fun σ B' H' E s => ⟨B', ρ', o, E, h, ho.same s⟩
    | rt s => cases h; exact ho
    | bk ρ' => cases h; exact ho
    | ct ρ' => cases h; exact ho
    | ex n ρ' => cases h; exact ho
theorem psdsCons (h1 : PSD X H0 W st F) (h2 : PSDs X H0 W rest G) : PSDs X H0 W (st :: rest) (sSeq F G) := ⟨pssWeak (pss_cons h1.ps h2.pss) fun D σ H ⟨B, ρ, o, E, h, ho⟩ => by
  obtain ⟨o1, q1, q2⟩ := seq_out h ho
  exact ⟨B, ρ, o1, E, q1, q2⟩⟩
theorem psdsOne (h1 : PSD X H0 W st F) : PSDs X H0 W [st] F := ⟨pss_one h1.ps⟩
/-- a ghost step ahead of a block -/
theorem psdsGhost (g : Ev → Option Ev) (hg : ∀ B H σ ρ ρ', ER X.K H0 B H σ ρ → g ρ = some ρ' → ∃ B', ER X.K H0 B' H σ ρ' ∧ Same B B') (h : PSDs X H0 W sts F) : PSDs X H0 W sts (fun ρ => match g ρ with | some ρ' => F ρ' | none => none) := ⟨pssWeak h.pss fun D σ H ⟨B, ρ, o, E, h, ho⟩ => by
  dsimp only at h
  cases r : g ρ with
  | none => rw [r] at h; cases h
  | some ρ' =>
    rw [r] at h
    obtain ⟨B', E', s⟩ := hg B H σ ρ ρ' E r
    exact ⟨B', ρ', o, E', h, ho.same s⟩⟩

/-! ### small statements -/
def sPass : SF := fun ρ => some (.nx ρ)
theorem psdPass : PSD X H0 W (.Pass pos) sPass := ⟨psWeak ps_pass fun D σ H ⟨B, ρ, o, E, h, ho⟩ => by cases h; exact ho σ B H E (Same.refl _)⟩
def sBreak : SF := fun ρ => some (.bk ρ)
theorem psdBreak : PSD X H0 W (.Break pos) sBreak := ⟨psWeak ps_break fun D σ H ⟨B, ρ, o, E, h, ho⟩ => by cases h; exact ho σ B H E (Same.refl _)⟩
def sCont : SF := fun ρ => some (.ct ρ)
theorem psdCont : PSD X H0 W (.Continue pos) sCont := ⟨psWeak ps_continue fun D σ H ⟨B, ρ, o, E, h, ho⟩ => by cases h; exact ho σ B H E (Same.refl _)⟩
def sExpr (f : EF) : SF := fun ρ => bSz (f ρ) ρ fun _ => some (.nx ρ)
theorem psdExpr (he : PD X H0 W e f) (hs : swapsWith e none pos.line X.env = pure false := by rfl) : PSD X H0 W (.Expr e pos) (sExpr f) := ⟨psWeak (ps_expr he.z hs) fun D σ H ⟨B, ρ, o, E, h, ho⟩ => ⟨B, ρ, E, bSz_ok E h ho fun s v B' H' n r q ho' => by
  cases q; exact ho' σ B' H' (E.nx n) (Same.refl _)⟩⟩
def sRet (f : EF) : SF := fun ρ => bS (f ρ) ρ fun s => if stb s = true then some (.rt s) else none
theorem psdRet (he : PD X H0 W e f) : PSD X H0 W (.Return (some e) pos) (sRet f) := ⟨psWeak (ps_ret he.pe) fun D σ H ⟨B, ρ, o, E, h, ho⟩ => ⟨B, ρ, E, bS_ok E h ho fun s v B' H' T n t r q ho' => by
  split at q
  · cases q
    exact ho' v σ ρ B' H' T (E.nx n) (Same.refl _) t.s (fun a ha => ⟨(t.n a ha).2, E.e0.free (t.n a ha).1⟩) r
  · cases q⟩⟩
/-- return x, x an own list -/
def sRetOwn (i : Nat) : SF := fun ρ => match ρ[i]? with
  | some (.own fr ds) => some (.rt (.own fr ds))
  | some (.full d) => some (.rt (.full d))
  | some (.val fr d) => some (.rt (.val fr d))
  | _ => none
theorem psdRetOwn {i : Nat} (h : PE X e (tVar i)) : PSD X H0 W (.Return (some e) pos) (sRetOwn i) := ⟨psWeak (ps_ret h) fun D σ H ⟨B, ρ, o, E, h, ho⟩ => by
  obtain ⟨F, f1, f2, f3, f4⟩ := E.ex
  unfold sRetOwn at h
  split at h
  · rename_i fr ds hr
    cases h
    obtain ⟨p, vs, e1, e2, r1⟩ := f4 i _ hr
    exact ⟨_, e1, ho _ σ ρ B H (F i) E (Same.refl _) (f1 i) (f2 i) ⟨p, vs, rfl, e2, r1⟩⟩
  · rename_i d hr
    cases h
    obtain ⟨v, e1, r1⟩ := f4 i _ hr
    exact ⟨_, e1, ho _ σ ρ B H (F i) E (Same.refl _) (f1 i) (f2 i) r1⟩
  · rename_i fr d hr
    cases h
    obtain ⟨v, e1, r1⟩ := f4 i _ hr
    exact ⟨_, e1, ho _ σ ρ B H emp E (Same.refl _) (fun _ _ z => nomatch z) (fun _ z => absurd rfl z) r1⟩
  · cases h⟩
def sRetN : SF := fun _ => some (.rt (.val true .none))
theorem psdRetN : PSD X H0 W (.Return none pos) sRetN := ⟨psWeak ps_retN fun D σ H ⟨B, ρ, o, E, h, ho⟩ => by
  cases h; exact ho .non σ ρ B H emp E (Same.refl _) (fun _ _ z => nomatch z) (fun _ z => absurd rfl z) .non⟩
def sIf (t : BF) (F G : SF) : SF := fun ρ => match t ρ with
  | some (.ok true) => F ρ
  | some (.ok false) => G ρ
  | some (.ex n) => some (.ex n ρ)
  | none => none
theorem psdIf {A1 A2 : List Stmt} (hc : PB X H0 W c t) (ha : PSDs X H0 W A1 F) (hb : PSDs X H0 W A2 G) : PSD X H0 W (.If c A1 A2 pos) (sIf t F G) := ⟨psWeak (ps_if hc.pt ha.pss hb.pss) fun D σ H ⟨B, ρ, o, E, h, ho⟩ => ⟨B, ρ, E, by
  unfold sIf at h
  cases r : t ρ with
  | none => rw [r] at h; cases h
  | some q =>
    rw [r] at h
    cases q with
    | ok b =>
      refine .inl ⟨b, rfl, fun B' H' n => ?_⟩
      cases b with
      | true => rw [if_pos rfl]; exact ⟨B', ρ, o, E.nx n, h, ho.same n.b⟩
      | false => rw [if_neg Bool.false_ne_true]; exact ⟨B', ρ, o, E.nx n, h, ho.same n.b⟩
    | ex n => cases h; exact .inr ⟨n, rfl, kx_of E ho⟩⟩⟩

/-! ### stores -/
def sSet (i : Nat) (f : EF) : SF := fun ρ => bS (f ρ) ρ fun s => if stb s = true then some (.nx (ρ.set i s)) else none
def sSetZ (i : Nat) (f : EF) : SF := fun ρ => bSz (f ρ) ρ fun s => if stb s = true then some (.nx (ρ.set i s)) else none
theorem RZ.rr {v : V} {s : Sl} (r : RZ K H0 B H v s) : RR K H0 B H emp v s := by
  cases s with
  | und => exact r
  | own _ _ => exact r.elim
  | full _ => exact r.elim
  | val _ _ => exact r
  | bor _ _ => exact r
  | brf _ => exact r
theorem psdSet {i : Nat} {x : Str} {pos' : Pos} (hN : X.N.Nodup) (hi : X.N[i]? = some x) (hx : Loc X.env.scope x) (he : PD X H0 W e f) (hs : swapsWith e (some (.Name x pos')) pos.line X.env = pure false := by rfl) (hf : X.fn x = true ∨ X.env.scope.names.lookup x = some .local := by first | exact .inl rfl | exact .inr rfl | assumption) :
    PSD X H0 W (.Assign [.Name x pos'] e pos) (sSet i f) := ⟨psWeak (ps_set hN hi hx he.pe hs hf) fun D σ H ⟨B, ρ, o, E, h, ho⟩ => ⟨B, ρ, E, bS_ok E h ho fun s v B' H' T n t r q ho' => by
  split at q
  · rename_i hs; cases q
    exact ho' _ B' H' (E.set n t r hs) (Same.refl _)
  · cases q⟩⟩
theorem psdSetZ {i : Nat} {x : Str} {pos' : Pos} (hN : X.N.Nodup) (hi : X.N[i]? = some x) (hx : Loc X.env.scope x) (he : PD X H0 W e f) (hs : swapsWith e (some (.Name x pos')) pos.line X.env = pure false := by rfl) (hf : X.fn x = true ∨ X.env.scope.names.lookup x = some .local := by first | exact .inl rfl | exact .inr rfl | assumption) :
    PSD X H0 W (.Assign [.Name x pos'] e pos) (sSetZ i f) := ⟨psWeak (ps_set hN hi hx he.z hs hf) fun D σ H ⟨B, ρ, o, E, h, ho⟩ => ⟨B, ρ, E, bSz_ok E h ho fun s v B' H' n r q ho' => by
  split at q
  · rename_i hs; cases q
    exact ho' _ B' H' (E.set n TF.emp r.rr hs) (Same.refl _)
  · cases q⟩⟩
/-- x op= e, of scalars -/
def sAug (i : Nat) (F : PyData → PyData → Option PyData) (f : EF) : SF := fun ρ => bSz (eVar i ρ) ρ fun x => bSz (f ρ) ρ fun y => match fD F x y with
  | some s => some (.nx (ρ.set i s))
  | none => none
theorem psdAug {i : Nat} {x : Str} {pos' : Pos} {op : Operator} {G : PyData → PyData → Option PyData} (hN : X.N.Nodup) (hi : X.N[i]? = some x) (hx : Loc X.env.scope x) (he : PD X H0 W e f) (ho : OpR X (inplaceOp op) (rD X.K G)) (hf : X.fn x = true ∨ X.env.scope.names.lookup x = some .local := by first | exact .inl rfl | exact .inr rfl | assumption) :
    PSD X H0 W (.AugAssign (.Name x pos') op e pos) (sAug i G f) := ⟨psWeak (ps_aug (ti := rD X.K G) hN hi hx he.z ho hf) fun D σ H ⟨B, ρ, o, E, h, ho⟩ => by
  unfold sAug at h
  obtain ⟨F, f1, f2, f3, f4⟩ := E.ex
  have go : ∀ (x : Sl) (v : V), σ[i]? = some (some v) → RZ X.K H0 B H v x → (bSz (f ρ) ρ fun y => match fD G x y with | some s => some (.nx (ρ.set i s)) | none => none) = some o → tAug i (tZ X.K X.mg H0 W f) (rD X.K G) D σ H := fun x v e1 rx h' => by
    refine ⟨v, e1, B, ρ, E, bSz_ok E h' ho fun s w B' H' n r q ho' => ?_⟩
    split at q
    · rename_i z hz
      cases q
      obtain ⟨d, d', y, h1, h2, h3, h4, h5⟩ := fD_some hz
      subst h5
      exact ⟨d, d', y, (rx.mono n).data n.bh h1, r.data n.bh h2, h3, h4, ho' _ B' H' (E.set n (v := vOf y) (s := .val true y) TF.emp (Rep.vOf h4) rfl) (Same.refl _)⟩
    · cases q
  unfold eVar at h
  split at h
  · rename_i fr d hr
    obtain ⟨v, e1, r1⟩ := f4 i _ hr
    exact go (.val fr d) v e1 r1 h
  · rename_i fr ds hr
    obtain ⟨p, vs, e1, e2, r1⟩ := f4 i _ hr
    exact go (.bor fr ds) _ e1 ⟨p, vs, rfl, f1 i _ _ e2, r1⟩ h
  · rename_i d hr
    obtain ⟨v, e1, r1⟩ := f4 i _ hr
    exact go (.brf d) v e1 (Rep.mono (LN.mono (f1 i)) r1) h
  · cases h⟩
theorem iopAdd : OpR X (inplaceOp .Add) (rD X.K (gI cT (· + ·))) := dopI (PL.OpR.rI0 iop_add) fun _ _ _ => trivial
theorem iopSub : OpR X (inplaceOp .Sub) (rD X.K gSub) := dopI (PL.OpR.rI0 iop_sub) fun _ _ _ => trivial
theorem iopOr : OpR X (inplaceOp .BitOr) (rD X.K gOr) := dopI (PL.OpR.rI0 iop_or) fun _ _ _ => trivial

/-! ### targets -/
abbrev GF := Sl → Ev → Option Ev
def tG (K : PySem.W.Frag) (H0 : En) (t : GF) : TG := fun v σ H Q => ∃ B ρ s ρ', ER K H0 B H σ ρ ∧ RZ K H0 B H v s ∧ t s ρ = some ρ' ∧ ∀ σ', ER K H0 B H σ' ρ' → Q σ' H
structure PGD (X : Cx) (H0 : En) (e : Expr) (t : GF) : Prop where
  pg : PG X e (tG X.K H0 t)
theorem pgWeak {t t' : TG} (h : PG X e t) (i : ∀ v σ H Q, t' v σ H Q → t v σ H Q) : PG X e t' := ⟨fun pins s σ H v u Q I r q => h.run pins s σ H v u Q I r (i v σ H Q q)⟩
def gN (i : Nat) : GF := fun s ρ => if stb s = true then some (ρ.set i s) else none
theorem pgdName {i : Nat} {x : Str} (hN : X.N.Nodup) (hi : X.N[i]? = some x) (hx : Loc X.env.scope x) (hf : X.fn x = true ∨ X.env.scope.names.lookup x = some .local := by first | exact .inl rfl | exact .inr rfl | assumption) : PGD X H0 (.Name x pos) (gN i) := ⟨pgWeak (pg_name hN hi hx hf) fun v σ H Q ⟨B, ρ, s, ρ', E, r, h, q⟩ => by
  unfold gN at h
  split at h
  · rename_i hs; cases h
    exact q _ (E.set E.nx0 TF.emp r.rr hs)
  · cases h⟩
/-- several names, the values given -/
def gSets : List Nat → List Sl → Ev → Option Ev
  | [], [], ρ => some ρ
  | i :: is, s :: ss, ρ => if stb s = true then gSets is ss (ρ.set i s) else none
  | _, _, _ => none
def tGs (K : PySem.W.Frag) (H0 : En) (is : List Nat) : TGs := fun vs σ H Q => ∃ B ρ ss ρ', ER K H0 B H σ ρ ∧ RZs K H0 B H vs ss ∧ gSets is ss ρ = some ρ' ∧ ∀ σ', ER K H0 B H σ' ρ' → Q σ' H
structure PGDs (X : Cx) (H0 : En) (es : List Expr) (is : List Nat) : Prop where
  pgs : PGs X es (tGs X.K H0 is)
theorem pgdsNil : PGDs X H0 [] [] := ⟨⟨fun pins s σ H vs us Q I r ⟨B, ρ, ss, ρ', E, rz, h, q⟩ => by
  cases ss with
  | cons _ _ => cases h
  | nil => cases h; cases rz; exact pgs_nil.run pins s σ H [] us Q I r ⟨rfl, q σ E⟩⟩⟩
theorem pgdsCons {i : Nat} {is : List Nat} {x : Str} (hN : X.N.Nodup) (hi : X.N[i]? = some x) (hx : Loc X.env.scope x) (h2 : PGDs X H0 es is) (hf : X.fn x = true ∨ X.env.scope.names.lookup x = some .local := by first | exact .inl rfl | exact .inr rfl | assumption)
    (hs : (assignEach (.Name x pos :: es) X.env).map (·.2) = assign (.Name x pos) X.env :: (assignEach es X.env).map (·.2) := by rfl) : PGDs X H0 (.Name x pos :: es) (i :: is) := ⟨⟨fun pins s σ H vs us Q I r ⟨B, ρ, ss, ρ', E, rz, h, q⟩ => by
  cases rz with
  | nil => cases h
  | @cons v vs' s1 ss' r1 rs =>
    unfold gSets at h
    split at h
    · rename_i hs1
      exact (pgs_cons (pg_name hN hi hx hf) h2.pgs hs).run pins s σ H _ us Q I r ⟨v, vs', rfl, B, _, ss', ρ', E.set E.nx0 TF.emp r1.rr hs1, rs, h, q⟩
    · cases h⟩⟩
/-- a tuple's items -/
def itemsT (s : Sl) : Option (List Sl) :=
  match tupD s with
  | some (fr, ds) => some (ds.map (mkv fr))
  | none => none
theorem rzs_map {fr : Bool} : ∀ {vs : List V} {ds : List PyData}, RepAll (LF K H0 B fr) vs ds → RZs K H0 B H vs (ds.map (mkv fr))
  | _, _, .nil => .nil
  | _, _, .cons r rs => .cons (mkv_rep (H := H) r) (rzs_map rs)
def gT (is : List Nat) : GF := fun s ρ => match itemsT s with
  | some ss => gSets is ss ρ
  | none => none
theorem gSets_len : ∀ {is : List Nat} {ss : List Sl} {ρ ρ' : Ev}, gSets is ss ρ = some ρ' → ss.length = is.length
  | [], [], _, _, _ => rfl
  | i :: is, s :: ss, ρ, ρ', h => by
    unfold gSets at h
    split at h
    · exact congrArg (· + 1) (gSets_len h)
    · cases h
  | [], _ :: _, _, _, h => by cases h
  | _ :: _, [], _, _, h => by cases h
theorem pgdTup {is : List Nat} {k : Nat} (hc : X.calm = true) (h : PGDs X H0 es is) (hn : (assignEach es X.env).length = is.length := by rfl) (hst : (assignEach es X.env).findIdx? (·.1) = none := by rfl) : PGD X H0 (.Tuple es k pos) (gT is) := ⟨pgWeak (pg_tup hc h.pgs hn hst) fun v σ H Q ⟨B, ρ, s, ρ', E, r, hh, q⟩ => by
  unfold gT itemsT at hh
  split at hh
  · rename_i ss hss
    split at hss
    · rename_i fr ds hd
      cases hss
      obtain ⟨p, vs, rfl, s1, a1⟩ := r.tup E.eB hd
      have hl := gSets_len hh
      rw [List.length_map] at hl
      exact ⟨p, vs, rfl, s1, by rw [a1.length, hl], B, ρ, _, ρ', E, rzs_map a1, hh, q⟩
    · cases hss
  · cases hh⟩
def sUnp (is : List Nat) (f : EF) : SF := fun ρ => bSz (f ρ) ρ fun s => match gT is s ρ with
  | some ρ' => some (.nx ρ')
  | none => none
theorem psdUnp {is : List Nat} {tg : Expr} (he : PD X H0 W e f) (hg : PGD X H0 tg (gT is)) (hs : swapsWithSole [tg] e pos.line X.env = pure false := by rfl) (hw : swappedStores [tg] e X.env = pure none := by rfl) (h1 : (assignEach [tg] X.env).map (·.2) = [assign tg X.env] := by rfl) :
    PSD X H0 W (.Assign [tg] e pos) (sUnp is f) := ⟨psWeak (ps_asg he.z hg.pg hs hw h1) fun D σ H ⟨B, ρ, o, E, h, ho⟩ => ⟨B, ρ, E, bSz_ok E h ho fun s v B' H' n r q ho' => by
  split at q
  · rename_i ρ' hr
    cases q
    exact ⟨B', ρ, s, ρ', E.nx n, r, hr, fun σ' E2 => ho' σ' B' H' E2 (Same.refl _)⟩
  · cases q⟩⟩

/-! ### what is walked -/
inductive Ri where
  | ok (its : List Sl)
  | ex (n : Str)
abbrev IF := Ev → Option Ri
structure ItOk (K : PySem.W.Frag) (H0 : En) (B : Hp) (J : It) (its : List Sl) : Prop where
  go : ∀ i B' H', Same B B' → Same B' H' → i < its.length → J.go i H'
  yld : ∀ i B' H' x H'' s, Same B B' → Same B' H' → Same H0.H H' → its[i]? = some s → J.yld i H' x H'' → ∃ B'', Nx B' H' B'' H'' ∧ RZ K H0 B'' H'' x s
  stop : ∀ i B' H', Same B B' → Same B' H' → its.length ≤ i → J.stop i H'
def tI (K : PySem.W.Frag) (mg : Str → Option Value) (H0 : En) (W : WX) (g : IF) : TI := fun σ H R => ∃ B ρ, ER K H0 B H σ ρ ∧
  ((∃ its, g ρ = some (.ok its) ∧ ∀ J B' H', Nx B H B' H' → ItOk K H0 B' J its → R J H') ∨ ∃ n, g ρ = some (.ex n) ∧ KX mg B H σ W n)
structure PID (X : Cx) (H0 : En) (W : WX) (tg e : Expr) (g : IF) : Prop where
  pi : PI X tg e (tI X.K X.mg H0 W g)
/-- a frozen list's items -/
def iL (f : EF) : IF := fun ρ => match f ρ with
  | some (.ok s) => match frz s with
    | .val fr (.list ds) => some (.ok (ds.map (mkv fr)))
    | _ => none
  | some (.ex n) => some (.ex n)
  | none => none
theorem map_at {α β : Type} {f : α → β} {l : List α} {i : Nat} {b : β} (h : (l.map f)[i]? = some b) : ∃ a, l[i]? = some a ∧ b = f a := by
  rw [List.getElem?_map] at h
  cases q : l[i]? with
  | none => rw [q] at h; cases h
  | some a => rw [q] at h; exact ⟨a, rfl, (Option.some.inj h).symm⟩
theorem itl_ok {fr : Bool} {p : Addr} {vs : List V} {ds : List PyData} (s : SqL K B p vs) (r : RepAll (LF K H0 B fr) vs ds) : ItOk K H0 B (Itl K p) (ds.map (mkv fr)) where
  go := fun i B' H' h1 h2 hi => by
    rw [List.length_map, ← r.length] at hi
    exact ⟨vs, vs[i], Same.seq h2 (Same.seq h1 s), by simp [hi]⟩
  yld := fun i B' H' x H'' u h1 h2 h3 hu hy => by
    obtain ⟨rfl, hy⟩ := hy
    obtain ⟨d, hd, rfl⟩ := map_at hu
    obtain ⟨v, hv, rv⟩ := r.at hd
    have e := hy vs (Same.seq h2 (Same.seq h1 s))
    rw [hv] at e
    cases e
    exact ⟨B', Nx.refl h2, mkv_rep (H := H'') (rv.mono (LF.mono h1))⟩
  stop := fun i B' H' h1 h2 hi => by
    rw [List.length_map, ← r.length] at hi
    exact ⟨vs, Same.seq h2 (Same.seq h1 s), hi⟩
theorem LF.sq {fr : Bool} {p : Addr} {vs : List V} (h : LF K H0 B fr p (.lst vs)) : SqL K B p vs := by
  cases fr with
  | true => exact SqL.of (nw_same _ _ h)
  | false => exact h
theorem pidL {tg : Expr} (he : PD X H0 W e f) : PID X H0 W tg e (iL f) := ⟨piWeak (pi_list he.z) fun σ H R ⟨B, ρ, E, q⟩ => ⟨B, ρ, E, by
  unfold iL at q
  cases r : f ρ with
  | none => rw [r] at q; rcases q with ⟨s, h1, h2⟩ | ⟨m, h1, h2⟩ <;> cases h1
  | some o =>
    rw [r] at q
    cases o with
    | ex n =>
      rcases q with ⟨s, h1, h2⟩ | ⟨m, h1, h2⟩
      · cases h1
      · cases h1; exact .inr ⟨n, rfl, h2⟩
    | ok s =>
      refine .inl ⟨s, rfl, fun v B1 H1 n1 r1 => ?_⟩
      dsimp only at q
      split at q
      · rename_i fr ds hz
        rw [hz] at r1
        obtain ⟨p, vs, rfl, s1, a1⟩ := Rep.lstV r1
        rcases q with ⟨its, h1, h2⟩ | ⟨m, h1, h2⟩
        · cases h1
          exact ⟨p, rfl, ⟨vs, LF.toH n1.bh p _ s1⟩, h2 _ B1 H1 n1 (itl_ok (LF.sq s1) a1)⟩
        · cases h1
      · rcases q with ⟨s, h1, h2⟩ | ⟨m, h1, h2⟩ <;> cases h1⟩⟩
/-- lo, lo + 1, .. below hi -/
def rngI (lo hi : Int) : List Sl := (List.range (hi - lo).toNat).map fun (i : Nat) => .val true (.int (lo + (i : Int)))
theorem itr_ok (lo hi : Int) : ItOk K H0 B (Itr lo (hi - lo).toNat) (rngI lo hi) where
  go := fun i B' H' h1 h2 h => by unfold rngI at h; rw [List.length_map, List.length_range] at h; exact h
  yld := fun i B' H' x H'' s h1 h2 h3 hu hy => by
    obtain ⟨rfl, rfl⟩ := hy
    obtain ⟨j, hj, rfl⟩ := map_at hu
    have : j = i := by
      obtain ⟨h, e⟩ := List.getElem?_eq_some_iff.mp hj
      rw [List.getElem_range] at e; exact e.symm
    subst this
    exact ⟨B', Nx.refl h2, .int _⟩
  stop := fun i B' H' h1 h2 h => by unfold rngI at h; rw [List.length_map, List.length_range] at h; exact h
noncomputable def small62 (i : Int) : Bool := cd (-(4611686018427387904) ≤ i ∧ i < 4611686018427387904)
noncomputable def iR (fs : List EF) : IF := fun ρ => match evs fs ρ with
  | some (.ok ss) => match ss.map dat with
    | [some (.int j)] => if small62 j = true then some (.ok (rngI 0 j)) else none
    | [some (.int i), some (.int j)] => if small62 i = true ∧ small62 j = true then some (.ok (rngI i j)) else none
    | _ => none
  | some (.ex n) => some (.ex n)
  | none => none
theorem small_ok {i : Int} (h : small62 i = true) : -(2 ^ 62) ≤ i ∧ i < 2 ^ 62 := by have := of_cd h; simpa using this
theorem ir_ok {fs : List EF} {R : It → Hp → Prop} (E : ER K H0 B H σ ρ) (q : (∃ its, iR fs ρ = some (.ok its) ∧ ∀ J B' H', Nx B H B' H' → ItOk K H0 B' J its → R J H') ∨ ∃ n, iR fs ρ = some (.ex n) ∧ KX mg B H σ W n) :
    OKA K mg H0 W B H σ (evs fs ρ) fun vs H1 => (∃ j : Int, vs = [.int j] ∧ small62 j = true ∧ R (Itr 0 j.toNat) H1) ∨ ∃ i j : Int, vs = [.int i, .int j] ∧ small62 i = true ∧ small62 j = true ∧ R (Itr i (j - i).toNat) H1 := by
  unfold iR at q
  cases r : evs fs ρ with
  | none => rw [r] at q; rcases q with ⟨s, h1, h2⟩ | ⟨m, h1, h2⟩ <;> cases h1
  | some o =>
    rw [r] at q
    cases o with
    | ex n =>
      rcases q with ⟨s, h1, h2⟩ | ⟨m, h1, h2⟩
      · cases h1
      · cases h1; exact .inr ⟨n, rfl, h2⟩
    | ok ss =>
      refine .inl ⟨ss, rfl, fun vs B1 H1 n1 rs => ?_⟩
      dsimp only at q
      split at q
      · rename_i j hj
        split at q
        · rename_i hs
          rcases q with ⟨its, h1, h2⟩ | ⟨m, h1, h2⟩
          · cases h1
            cases rs with
            | nil => cases hj
            | cons r1 rs =>
              cases rs with
              | cons _ _ => simp at hj
              | nil =>
                simp only [List.map_cons, List.map_nil, List.cons.injEq, and_true] at hj
                refine .inl ⟨j, by rw [(r1.data n1.bh hj).intV], hs, ?_⟩
                have := h2 _ B1 H1 n1 (itr_ok 0 j)
                simpa using this
          · cases h1
        · rcases q with ⟨s, h1, h2⟩ | ⟨m, h1, h2⟩ <;> cases h1
      · rename_i i j hj
        split at q
        · rename_i hs
          rcases q with ⟨its, h1, h2⟩ | ⟨m, h1, h2⟩
          · cases h1
            cases rs with
            | nil => cases hj
            | cons r1 rs =>
              cases rs with
              | nil => simp at hj
              | cons r2 rs =>
                cases rs with
                | cons _ _ => simp at hj
                | nil =>
                  simp only [List.map_cons, List.map_nil, List.cons.injEq, and_true] at hj
                  exact .inr ⟨i, j, by rw [(r1.data n1.bh hj.1).intV, (r2.data n1.bh hj.2).intV], hs.1, hs.2, h2 _ B1 H1 n1 (itr_ok i j)⟩
          · cases h1
        · rcases q with ⟨s, h1, h2⟩ | ⟨m, h1, h2⟩ <;> cases h1
      · rcases q with ⟨s, h1, h2⟩ | ⟨m, h1, h2⟩ <;> cases h1
theorem pidR1 {tg : Expr} {p : Pos} (hm : X.mg "range" = none) (ha : PDs X H0 W [a] [f]) (hg : Gl X "range" := by rfl) (hs : starEach [a] X.env = [(false, eval a X.env)] := by rfl) : PID X H0 W tg (.Call (.Name "range" p) [a] [] pos) (iR [f]) := ⟨piWeak (pi_range1 hg hm ha.pa hs) fun σ H R ⟨B, ρ, E, q⟩ => ⟨B, ρ, E, by
  have z := ir_ok E q
  have one : ∀ ss, evs [f] ρ = some (.ok ss) → ss.length = 1 := fun ss h => by
    unfold evs at h
    split at h
    · unfold evs at h; cases h; rfl
    · cases h
    · cases h
  rcases z with ⟨ss, h1, h2⟩ | ⟨n, h1, h2⟩
  · refine .inl ⟨ss, h1, fun vs B' H' n rs => ?_⟩
    rcases h2 vs B' H' n rs with ⟨j, e, s, r⟩ | ⟨i, j, e, s, s', r⟩
    · exact ⟨j, e, (small_ok s).1, (small_ok s).2, r⟩
    · exfalso
      have l1 := one ss h1
      subst e
      cases rs with
      | cons _ rs => cases rs with
        | cons _ rs => cases rs; simp at l1
  · exact .inr ⟨n, h1, h2⟩⟩⟩
theorem pidR2 {tg : Expr} {p : Pos} (hm : X.mg "range" = none) (ha : PDs X H0 W [a, b] [f, g]) (hg : Gl X "range" := by rfl) (hs : starEach [a, b] X.env = [(false, eval a X.env), (false, eval b X.env)] := by rfl) (hs2 : starEach [b] X.env = [(false, eval b X.env)] := by rfl) : PID X H0 W tg (.Call (.Name "range" p) [a, b] [] pos) (iR [f, g]) := ⟨piWeak (pi_range2 hg hm ha.pa hs hs2) fun σ H R ⟨B, ρ, E, q⟩ => ⟨B, ρ, E, by
  have z := ir_ok E q
  have two : ∀ ss, evs [f, g] ρ = some (.ok ss) → ss.length = 2 := fun ss h => by
    unfold evs at h
    split at h
    · split at h
      · rename_i ss' h'
        cases h
        unfold evs at h'
        split at h'
        · unfold evs at h'; cases h'; rfl
        · cases h'
        · cases h'
      · rename_i hno; exact absurd h (hno ss)
    · cases h
    · cases h
  rcases z with ⟨ss, h1, h2⟩ | ⟨n, h1, h2⟩
  · refine .inl ⟨ss, h1, fun vs B' H' n rs => ?_⟩
    rcases h2 vs B' H' n rs with ⟨j, e, s, r⟩ | ⟨i, j, e, s, s', r⟩
    · exfalso
      have l1 := two ss h1
      subst e
      cases rs with
      | cons _ rs => cases rs; simp at l1
    · exact ⟨i, j, e, ⟨(small_ok s).1, (small_ok s).2, (small_ok s').1, (small_ok s').2⟩, r⟩
  · exact .inr ⟨n, h1, h2⟩⟩⟩

/-! ### for -/
def forL (t : GF) (body : SF) : List Sl → Ev → Option Out
  | [], ρ => some (.nx ρ)
  | s :: ss, ρ => match t s ρ with
    | none => none
    | some ρ1 => match body ρ1 with
      | some (.nx ρ2) => forL t body ss ρ2
      | some (.ct ρ2) => forL t body ss ρ2
      | some (.bk ρ2) => some (.nx ρ2)
      | r => r
def sFor (g : IF) (t : GF) (body : SF) : SF := fun ρ => match g ρ with
  | some (.ok its) => forL t body its ρ
  | some (.ex n) => some (.ex n ρ)
  | none => none
theorem psdFor {tg : Expr} {g : IF} {tt : GF} (hp : PassesOwn (model X.prog X.w) X.A X.env X.xe) (hc : X.calm = true) (hi : PID X H0 W tg e g) (hg : PGD X H0 tg tt) (hb : PSDs X H0 W sts F) (hs : ∀ x, foldedSetIterable e X.env x = pure x := by intro _; rfl) : PSD X H0 W (.For tg e sts [] pos) (sFor g tt F) := ⟨psWeak (ps_for hp hc hi.pi hg.pg hb.pss hs) fun D σ H ⟨B, ρ, o, E, h, ho⟩ => ⟨B, ρ, E, by
  unfold sFor at h
  cases r : g ρ with
  | none => rw [r] at h; cases h
  | some q =>
    rw [r] at h
    cases q with
    | ex n => cases h; exact .inr ⟨n, rfl, kx_of E ho⟩
    | ok its =>
      refine .inl ⟨its, rfl, fun J B1 H1 n1 I1 => ?_⟩
      dsimp only at h
      refine ⟨fun i m σ H => m = its.length - i ∧ i ≤ its.length ∧ ∃ B2 ρ2, ER X.K H0 B2 H σ ρ2 ∧ Same B1 B2 ∧ forL tt F (its.drop i) ρ2 = some o, ⟨_, rfl, Nat.zero_le _, B1, ρ, E.nx n1, Same.refl _, h⟩, ?_⟩
      rintro i m σ3 H3 ⟨rfl, hi, B2, ρ2, E2, s2, h2⟩
      by_cases hlt : i < its.length
      · refine .inr ⟨I1.go i B2 H3 s2 E2.eB hlt, ?_⟩
        have hd : its.drop i = its[i] :: its.drop (i + 1) := List.drop_eq_getElem_cons hlt
        rw [hd] at h2
        unfold forL at h2
        cases rt : tt its[i] ρ2 with
        | none => rw [rt] at h2; cases h2
        | some ρ3 =>
          rw [rt] at h2
          dsimp only at h2
          refine ⟨fun σ' H' => ∃ B4 ρ4, ER X.K H0 B4 H' σ' ρ4 ∧ Same B1 B4 ∧ forL tt F (its.drop (i + 1)) ρ4 = some o, fun σ' H' ⟨B4, ρ4, E4, s4, h4⟩ => ⟨_, by omega, rfl, hlt, B4, ρ4, E4, s4, h4⟩, fun x H4 hy => ?_⟩
          obtain ⟨B3, n3, rz⟩ := I1.yld i B2 H3 x H4 its[i] s2 E2.eB E2.e0 (List.getElem?_eq_getElem hlt) hy
          refine ⟨B3, ρ2, its[i], ρ3, E2.nx n3, rz, rt, fun σ5 E5 => ?_⟩
          have s15 : Same B1 B3 := s2.trans n3.b
          cases rb : F ρ3 with
          | none => rw [rb] at h2; cases h2
          | some ob =>
            rw [rb] at h2
            refine ⟨B3, ρ3, ob, E5, rb, ?_⟩
            cases ob with
            | nx ρ6 => exact fun σ6 B6 H6 E6 s6 => ⟨B6, ρ6, E6, s15.trans s6, h2⟩
            | ct ρ6 => exact fun σ6 B6 H6 E6 s6 => ⟨B6, ρ6, E6, s15.trans s6, h2⟩
            | bk ρ6 => cases h2; exact (ho.same (n1.b.trans s15)).same (Same.refl _)
            | rt s => cases h2; exact ho.same (n1.b.trans s15)
            | ex n ρ6 => cases h2; exact ho.same (n1.b.trans s15)
      · have ei : i = its.length := by omega
        subst ei
        rw [List.drop_length] at h2
        cases h2
        exact .inl ⟨I1.stop _ B2 H3 s2 E2.eB (Nat.le_refl _), ho σ3 B2 H3 E2 (n1.b.trans s2)⟩⟩⟩

/-! ### while -/
def whileN (t : BF) (body : SF) : Nat → Ev → Option Out
  | 0, _ => none
  | n + 1, ρ => match t ρ with
    | some (.ok true) => match body ρ with
      | some (.nx ρ2) => whileN t body n ρ2
      | some (.ct ρ2) => whileN t body n ρ2
      | some (.bk ρ2) => some (.nx ρ2)
      | r => r
    | some (.ok false) => some (.nx ρ)
    | some (.ex n) => some (.ex n ρ)
    | none => none
def sWhile (fuel : Ev → Nat) (t : BF) (body : SF) : SF := fun ρ => whileN t body (fuel ρ) ρ
theorem psdWhile {fuel : Ev → Nat} (hp : PassesOwn (model X.prog X.w) X.A X.env X.xe) (hc : PB X H0 W c t) (hb : PSDs X H0 W sts F) : PSD X H0 W (.While c sts [] pos) (sWhile fuel t F) := ⟨psWeak (ps_while hp hc.pt hb.pss) fun D σ H ⟨B, ρ, o, E, h, ho⟩ => by
  refine ⟨fun m σ H => ∃ B2 ρ2, ER X.K H0 B2 H σ ρ2 ∧ Same B B2 ∧ whileN t F m ρ2 = some o, ⟨fuel ρ, B, ρ, E, Same.refl _, h⟩, ?_⟩
  rintro m σ3 H3 ⟨B2, ρ2, E2, s2, h2⟩
  cases m with
  | zero => cases h2
  | succ m =>
    refine ⟨B2, ρ2, E2, ?_⟩
    unfold whileN at h2
    cases r : t ρ2 with
    | none => rw [r] at h2; cases h2
    | some q =>
      rw [r] at h2
      cases q with
      | ex n => cases h2; exact .inr ⟨n, rfl, kx_of E2 (ho.same s2)⟩
      | ok b =>
        refine .inl ⟨b, rfl, fun B4 H4 n4 => ?_⟩
        cases b with
        | false => rw [if_neg Bool.false_ne_true]; cases h2; exact ho σ3 B4 H4 (E2.nx n4) (s2.trans n4.b)
        | true =>
          rw [if_pos rfl]
          dsimp only at h2
          refine ⟨fun σ' H' => ∃ B5 ρ5, ER X.K H0 B5 H' σ' ρ5 ∧ Same B B5 ∧ whileN t F m ρ5 = some o, fun σ' H' ⟨B5, ρ5, E5, s5, h5⟩ => ⟨m, Nat.lt_succ_self m, B5, ρ5, E5, s5, h5⟩, ?_⟩
          have s14 : Same B B4 := s2.trans n4.b
          cases rb : F ρ2 with
          | none => rw [rb] at h2; cases h2
          | some ob =>
            rw [rb] at h2
            refine ⟨B4, ρ2, ob, E2.nx n4, rb, ?_⟩
            cases ob with
            | nx ρ6 => exact fun σ6 B6 H6 E6 s6 => ⟨B6, ρ6, E6, s14.trans s6, h2⟩
            | ct ρ6 => exact fun σ6 B6 H6 E6 s6 => ⟨B6, ρ6, E6, s14.trans s6, h2⟩
            | bk ρ6 => cases h2; exact ho.same s14
            | rt s => cases h2; exact ho.same s14
            | ex n ρ6 => cases h2; exact ho.same s14⟩
end
end PL

/-! PL6: what a def is, calls, comprehensions, changes of own lists. -/
namespace PL
open PySem PySem.Spec PyProof.Rows L2

/-! ### contracts where no repr runs around -/
structure FG (P : Program) (w : World) (K : PySem.W.Frag) (mg : Str → Option Value) (base : Heap) (k : Nat) (f : Addr) (fd : FuncData) (ps : List Str) (sp : Sp) : Prop where
  len : ∀ vs H Q E, sp vs H Q E → vs.length = ps.length
  go : ∀ (A : Around) (outer : List Env) (s : Shared) (H : Hp) (args : Args) (us : List Value) (vs : List V) (Q : VK) (E : XK), Room k A → A.guards = some [] → Env0 P w K mg base A outer s H → BindsTo s fd args (ps.zip us) → Vals vs us → sp vs H Q E →
    codeAny (model P w) A (.call (.ref f) args) (CR (L2.CX P w) outer P w H s Q E) s
section
variable {P : Program} {w : World} {K : PySem.W.Frag} {mg : Str → Option Value} {base : Heap} {k : Nat} {f : Addr} {fd : FuncData} {ps N : List Str} {sp sp' : Sp}
theorem FG.ofOk (h : FnOk P w K mg base (L2.CX P w) k f fd ps sp) : FG P w K mg base k f fd ps sp := ⟨h.len, fun A o s H a us vs Q E r _ e b v q => h.run A o s H a us vs Q E r e b v q⟩
theorem FG.mono (h : FG P w K mg base k f fd ps sp) {j : Nat} (hj : k ≤ j) : FG P w K mg base j f fd ps sp := ⟨h.len, fun A o s H a us vs Q E r g e b v q => h.go A o s H a us vs Q E (r.mono hj) g e b v q⟩
theorem FG.imp (h : FG P w K mg base k f fd ps sp) (i : ∀ vs H Q E, sp' vs H Q E → sp vs H Q E) : FG P w K mg base k f fd ps sp' :=
  ⟨fun vs H Q E q => h.len vs H Q E (i _ _ _ _ q), fun A o s H a us vs Q E r g e b v q => h.go A o s H a us vs Q E r g e b v (i _ _ _ _ q)⟩
/-- a def of the text, by its body -/
theorem FG.of {x qual : Str} {st : Stmt} (Fn : Fun K x qual st f fd) (S : FnScope N ps (defScope st)) (len : ∀ vs H Q E, sp vs H Q E → vs.length = ps.length)
    (hb : ∀ (cdv : Value) (A : Around) (outer : List Env) (s : Shared) (H : Hp) (vs : List V) (Q : VK) (E : XK), Room k (A.deeper (envOfC qual (defScope st) s.heap.objs.size f cdv)) → (A.deeper (envOfC qual (defScope st) s.heap.objs.size f cdv)).guards = some [] → sp vs H Q E →
      ∃ t, PSs (cxOf (L2.CX P w) P w K mg base N qual (defScope st) f cdv A outer s H E) (defBody st) t ∧ t { nx := fun _ H' => Q .non H', rt := Q } (start N vs) H) : FG P w K mg base (k + 1) f fd ps sp := by
  obtain ⟨oc, od, kV, doc, pm, an, cdv, ct, osl, e1, lk, hcd⟩ := Fn.ex
  subst e1
  refine ⟨len, fun A outer s H args us vs Q E hr hg e0 hbd rv hsp => ?_⟩
  have hlen := len vs H Q E hsp
  have KX : K.In s.heap := e0.mod.kin.keeps fun b o e => (e0.bs b o e).1
  have lim := e0.mod.nolimit.keeps (h' := s.heap) fun b o e => (e0.bs b o e).1
  have kinds : ∀ y ∈ ps.zip us, (defScope st).names.lookup y.1 = some .local ∨ ((defScope st).names.lookup y.1 = some .cell ∧ ((cellsFrom (s.heap.objs.size + 1) (defScope st).names []).lookup y.1).isSome = true) := by
    intro ⟨n, v⟩ hy
    rcases S.par n (List.of_mem_zip hy).1 with q | q
    · left; exact q
    · right; exact ⟨q, PySem.W.cellsFrom_some _ _ _ (.inl q)⟩
  refine codeAny_call_function hr.depth (KX _ _ lk) rfl S.co S.gen rfl (PySem.W.codeRec_of KX hcd) (hbd _ _ _ _ ?_)
  refine wpAny_newFunctionEnv_cells S.kind kinds fun env he s1 x => ?_
  subst he
  refine ⟨lim.keeps x.toInCall.keep, codeAny_func ?_⟩
  obtain ⟨t, ht, hq⟩ := hb cdv A outer s H vs Q E (hr.deeper _) hg hsp
  have I := inv_start (CX := L2.CX P w) (qual := qual) (f := f) (cd := cdv) (outer := outer) (E := E) S hr.hd e0 hlen rv x
  refine wpAny_mono (ht.run [] s1 (start N vs) H _ I hq) (fun fl s' hs => ?_) fun e s' hs => hs
  cases fl with
  | brk => obtain ⟨_, _, _, z⟩ := hs; exact z.elim
  | cont => obtain ⟨_, _, _, z⟩ := hs; exact z.elim
  | ret u => obtain ⟨v, σ', H', J, r', z⟩ := hs; exact ⟨v, H', J.os, J.bare, J.base, J.hok, r', z⟩
  | next => obtain ⟨σ', H', J, z⟩ := hs; exact ⟨.non, H', J.os, J.bare, J.base, J.hok, rfl, z⟩
end

/-! ### promises by a function on data -/
inductive FR where
  | ret (fr : Bool) (d : PyData)
  | exc (n : Str)
abbrev FN := List PyData → Option FR
def FROk (K : PySem.W.Frag) (mg : Str → Option Value) (B H : Hp) (Q : VK) (E : XK) : FR → Prop
  | .ret true d => ∀ v H' N, Same H H' → Same N H' → (∀ a, N a ≠ none → H a = none) → Rep (LN N) v d → Q v H'
  | .ret false d => ∀ v B' H', Nx B H B' H' → Rep (LH K B') v d → Q v H'
  | .exc n => ∀ c H', mg n = some c → Same H H' → E c none H'
def spD (K : PySem.W.Frag) (mg : Str → Option Value) (n : Nat) (F : FN) : Sp := fun vs H Q E => vs.length = n ∧ ∃ B ds r, Same B H ∧ RepAll (LH K B) vs ds ∧ F ds = some r ∧ FROk K mg B H Q E r
def entS (d : PyData) : Sl := .val (scal d) d
def entE (n : Nat) (ds : List PyData) : Ev := ds.map entS ++ List.replicate (n - ds.length) .und
def frOf : Sl → Option FR
  | .val fr d => some (.ret (fr || scal d) d)
  | .own fr ds => some (.ret fr (.list ds))
  | .full d => some (.ret true d)
  | _ => none
/-- the body as a function on data: n slots -/
def callF (n : Nat) (F : SF) : FN := fun ds => match F (entE n ds) with
  | some (.nx _) => some (.ret true .none)
  | some (.rt s) => frOf s
  | some (.ex m _) => some (.exc m)
  | _ => none
section
variable {P : Program} {w : World} {K : PySem.W.Frag} {mg : Str → Option Value} {base : Heap} {k : Nat} {f : Addr} {fd : FuncData} {ps N : List Str} {B H : Hp}
theorem entry_er {vs : List V} {ds : List PyData} (n : Nat) (e : Same B H) (r : RepAll (LH K B) vs ds) (hn : ds.length ≤ n) (hN : N.length = n) : ER K ⟨H, B⟩ B H (start N vs) (entE n ds) := by
  have hl := r.length
  refine ⟨Same.refl _, Same.refl _, fun a h1 h2 => h2, e, ?_, fun _ => emp, ⟨fun i a o q => (nomatch q), fun i a q => absurd rfl q, fun i j a _ q => absurd rfl q, fun i s hs => ?_⟩⟩
  · unfold L2.start entE
    rw [List.length_append, List.length_append, List.length_map, List.length_map, List.length_replicate, List.length_replicate]
    omega
  · unfold entE at hs
    by_cases hi : i < ds.length
    · rw [List.getElem?_append_left (by rw [List.length_map]; exact hi)] at hs
      obtain ⟨d, hd, rfl⟩ := map_at hs
      obtain ⟨v, hv, rv⟩ := r.at hd
      refine ⟨v, ?_, ?_⟩
      · unfold L2.start
        rw [List.getElem?_append_left (by rw [List.length_map, hl]; exact hi), List.getElem?_map, hv]
        rfl
      · show Rep (LF K ⟨H, B⟩ B (scal d)) v d
        cases hsc : scal d with
        | true => exact Rep.scal rv hsc
        | false => exact rv
    · rw [List.getElem?_append_right (by rw [List.length_map]; omega), List.getElem?_replicate] at hs
      split at hs
      · cases hs; trivial
      · cases hs
theorem ret_ok {s : Sl} {r : FR} {v : V} {σ : L2.St} {ρ : Ev} {B' H' T : Hp} {Q : VK} {E : XK} (hf : frOf s = some r) (h : FROk K mg B H Q E r) (e : ER K ⟨H, B⟩ B' H' σ ρ) (t1 : Same T H') (t2 : ∀ a, T a ≠ none → B' a = none ∧ H a = none) (rr : RR K ⟨H, B⟩ B' H' T v s) : Q v H' := by
  have nxx : Nx B H B' H' := ⟨e.b0, e.eB, e.e0, fun a h1 h2 => e.n0 a h2 h1⟩
  have nwH : Same (nw H B') H' := fun a o q => e.eB a o (nw_some q).2
  have nwF : ∀ a, nw H B' a ≠ none → H a = none := fun a q => by
    cases z : nw H B' a with
    | none => exact absurd z q
    | some o => exact (nw_some z).1
  have freshRep : ∀ {v d}, Rep (LF K ⟨H, B⟩ B' true) v d → (∀ v H' N, Same H H' → Same N H' → (∀ a, N a ≠ none → H a = none) → Rep (LN N) v d → Q v H') → Q v H' := fun r q => q _ H' (nw H B') e.e0 nwH nwF r
  cases s with
  | und => cases hf
  | bor _ _ => cases hf
  | brf _ => cases hf
  | val fr d =>
    cases hf
    cases fr with
    | true => exact freshRep rr h
    | false =>
      rw [Bool.false_or] at h
      cases hs : scal d with
      | true => rw [hs] at h; exact freshRep (Rep.scal rr hs) h
      | false => rw [hs] at h; exact h v B' H' nxx rr
  | full d =>
    cases hf
    exact h v H' T e.e0 t1 (fun a q => (t2 a q).2) rr
  | own fr ds =>
    cases hf
    obtain ⟨p, vs, rfl, hp, ra⟩ := rr
    obtain ⟨g1, g2⟩ := t2 p (by rw [hp]; simp)
    cases fr with
    | true =>
      refine h (.ref p) H' (upd (nw H B') p (.lst vs)) e.e0 (same_upd2 nwH (t1 _ _ hp)) (fun a q => ?_) (.lst upd_same (ra.mono (LN.mono (same_upd ?_))))
      · by_cases ha : a = p
        · subst ha; exact g2
        · rw [upd_ne ha] at q; exact nwF a q
      · cases z : nw H B' p with
        | none => rfl
        | some o => rw [(nw_some z).2] at g1; cases g1
    | false =>
      have s1 : Same B' (upd B' p (.lst vs)) := same_upd g1
      refine h (.ref p) (upd B' p (.lst vs)) H' ⟨e.b0.trans s1, same_upd2 e.eB (t1 _ _ hp), e.e0, fun a q1 q2 => ?_⟩ (.lst (SqL.of upd_same) (ra.mono (LH.mono s1)))
      rw [upd_ne (fun z => by subst z; exact q2 g2)]
      exact e.n0 a q2 q1
/-- THE RULE: a def keeps the promise that its body's function makes -/
theorem FG.body {x qual : Str} {st : Stmt} {F : SF} (Fn : Fun K x qual st f fd) (S : FnScope N ps (defScope st))
    (hb : ∀ (cdv : Value) (A : Around) (outer : List Env) (s : Shared) (H B : Hp) (E : XK), Room k (A.deeper (envOfC qual (defScope st) s.heap.objs.size f cdv)) → (A.deeper (envOfC qual (defScope st) s.heap.objs.size f cdv)).guards = some [] →
      PSDs (cxOf (L2.CX P w) P w K mg base N qual (defScope st) f cdv A outer s H E) ⟨H, B⟩ (fun c d _ H => E c d H) (defBody st) F) : FG P w K mg base (k + 1) f fd ps (spD K mg ps.length (callF N.length F)) := by
  refine FG.of Fn S (fun vs H Q E h => h.1) fun cdv A outer s H vs Q E hr hg ⟨hl, B, ds, r, e, ra, hF, hok⟩ => ?_
  refine ⟨_, (hb cdv A outer s H B E hr hg).pss, B, entE N.length ds, ?_⟩
  have hpl : ps.length ≤ N.length := by have := congrArg List.length S.pre; rw [List.length_take] at this; omega
  have hle : ds.length ≤ N.length := by rw [← ra.length, hl]; exact hpl
  have E0 := entry_er (N := N) N.length e ra hle rfl
  unfold callF at hF
  split at hF
  · rename_i ρ' hr'
    cases hF
    exact ⟨_, E0, hr', fun σ' B' H' E' s' => hok .non H' emp E'.e0 (fun _ _ z => nomatch z) (fun _ z => absurd rfl z) .non⟩
  · rename_i s' hr'
    exact ⟨_, E0, hr', fun v σ' ρ' B' H' T E' s'' t1 t2 rr => ret_ok hF hok E' t1 t2 rr⟩
  · rename_i n ρ' hr'
    cases hF
    exact ⟨_, E0, hr', fun c σ' B' H' hc E' s'' => hok c H' hc E'.e0⟩
  · cases hF
/-- a promise by another function -/
theorem FG.fn {n : Nat} {F G : FN} (h : FG P w K mg base k f fd ps (spD K mg n F)) (i : ∀ ds r, G ds = some r → F ds = some r) : FG P w K mg base k f fd ps (spD K mg n G) :=
  h.imp fun vs H Q E ⟨hl, B, ds, r, e, ra, hG, hok⟩ => ⟨hl, B, ds, r, e, ra, i ds r hG, hok⟩
end

/-! ### calls -/
def isVal : Sl → Bool
  | .val _ _ => true
  | _ => false
def dats : List Sl → Option (List PyData)
  | [] => some []
  | s :: ss => match dat s with
    | some d => match dats ss with
      | some ds => some (d :: ds)
      | none => none
    | none => none
def cRes (F : FN) (ss : List Sl) : Option Rs := match dats ss with
  | some ds => match F ds with
    | some (.ret true d) => some (.ok (if scal d = true then .val true d else .full d))
    | some (.ret false d) => if ss.all isVal = true then some (.ok (.val false d)) else none
    | some (.exc n) => some (.ex n)
    | none => none
  | none => none
def eCall (F : FN) (fs : List EF) : EF := fun ρ => bzs (evs fs ρ) fun ss => cRes F ss
section
variable {X : Cx} {H0 : En} {W : WX} {e a b c : Expr} {es : List Expr} {fs : List EF} {pos p : Pos} {K : PySem.W.Frag} {B H B' H' : Hp} {σ : L2.St} {mg : Str → Option Value} {ρ : Ev} {k n : Nat} {f : Addr} {fd : FuncData} {ps : List Str} {x : Str} {F : FN}
theorem RZs.datsH : ∀ {vs : List V} {ss : List Sl} {ds : List PyData}, Same B H → RZs K H0 B H vs ss → dats ss = some ds → RepAll (LH K H) vs ds
  | _, _, _, _, .nil, h => by cases h; exact .nil
  | _, _, ds, eB, .cons (s := s) (ss := ss) r rs, h => by
    unfold dats at h
    split at h
    · rename_i d hd
      split at h
      · rename_i ds' hds
        cases h
        exact .cons (r.data eB hd) (RZs.datsH eB rs hds)
      · cases h
    · cases h
theorem RZs.datsB : ∀ {vs : List V} {ss : List Sl} {ds : List PyData}, RZs K H0 B H vs ss → ss.all isVal = true → dats ss = some ds → RepAll (LH K B) vs ds
  | _, _, _, .nil, _, h => by cases h; exact .nil
  | _, _, ds, .cons (s := s) (ss := ss) r rs, ha, h => by
    rw [List.all_cons, Bool.and_eq_true] at ha
    unfold dats at h
    split at h
    · rename_i d hd
      split at h
      · rename_i ds' hds
        cases h
        cases s with
        | val fr d' => cases hd; exact .cons (Rep.mono (LF.toH (Same.refl _)) r) (RZs.datsB rs ha.2 hds)
        | _ => cases ha.1
      · cases h
    · cases h
theorem runFG {pins : List (Addr × Obj)} {s : Shared} {Q : VK} {us : List Value} {vs : List V} {sp : Sp} (Fn : FG X.prog X.w X.K X.mg X.base k f fd ps sp) (hr : Room k X.A) (hg : X.A.guards = some []) (hb : Binds X.K fd ps []) (tk : Takes X W)
    (I : Inv X pins σ H s) (r : Vals vs us) (h : sp vs H Q (WE W σ)) : wpAny (model X.prog X.w) X.A (call (.ref f) us) (EP X pins σ Q) X.xe s := by
  have hl : us.length = ps.length := r.length.symm.trans (Fn.len _ _ _ _ h)
  have bnd := hb s us I.kIn (by simpa using hl)
  rw [List.append_nil] at bnd
  refine wpAny_call (codeAny_mono (Fn.go X.A X.stack s H ⟨us, []⟩ us vs Q (WE W σ) hr hg I.env0 bnd r h) fun res s' hq => ?_)
  match res, hq with
  | .ok (.ret u), hq => exact I.after hq
  | .ok .next, hq => exact hq.elim
  | .ok .brk, hq => exact hq.elim
  | .ok .cont, hq => exact hq.elim
  | .error e, hq => exact passAt tk σ pins H s e s' I hq
theorem peCallG {sp : Sp} {t : TA} (Fn : FG X.prog X.w X.K X.mg X.base k f fd ps sp) (hr : Room k X.A) (hgd : X.A.guards = some []) (hg : Gl X x) (hm : X.mg x = some (.ref f)) (hk : PySem.W.keepIn X.K (.ref f) = true) (hb : Binds X.K fd ps []) (tk : Takes X W) (ha : PA X (e :: es) t)
    (hdb : (x == ("__debug__" : Str)) = false := by decide) (he : starEach (e :: es) X.env = (false, eval e X.env) :: starEach es X.env := by rfl) (hpl : (backTo pos (starEach es X.env)).any (·.1) = false := by rfl) :
    PE X (.Call (.Name x p) (e :: es) [] pos) (fun σ H Q => t σ H fun vs H1 => sp vs H1 Q (WE W σ)) := ⟨fun pins s σ H Q I h => by
  refine wpAny_Call_Name_kw (ld_glob I hg hm (PySem.W.callWith_K (h₀ := X.base) I.ok.mod.kin hk ?_ he hpl) hdb)
  exact thn (ha.run pos pins s σ H _ I h) fun us s1 ⟨vs, H1, I1, r, q⟩ => ⟨I1.kIn, runFG Fn hr hgd hb tk I1 r q⟩⟩
theorem peCallG0 {sp : Sp} (Fn : FG X.prog X.w X.K X.mg X.base k f fd ps sp) (hr : Room k X.A) (hgd : X.A.guards = some []) (hg : Gl X x) (hm : X.mg x = some (.ref f)) (hk : PySem.W.keepIn X.K (.ref f) = true) (hb : Binds X.K fd ps []) (tk : Takes X W)
    (hdb : (x == ("__debug__" : Str)) = false := by decide) : PE X (.Call (.Name x p) [] [] pos) (fun σ H Q => sp [] H Q (WE W σ)) := ⟨fun pins s σ H Q I h => by
  exact wpAny_Call_Name_kw (ld_glob I hg hm (PySem.W.callWith_K0 I.kIn hk (runFG (us := []) Fn hr hgd hb tk I .nil h)) hdb)⟩
theorem call_out {ss : List Sl} {vs : List V} {Q : VK} (E : ER K H0 B H σ ρ) (rs : RZs K H0 B H vs ss) (hn : vs.length = n) (q : OK K mg H0 W B H σ (cRes F ss) Q) : spD K mg n F vs H Q (WE W σ) := by
  refine ⟨hn, ?_⟩
  unfold cRes at q
  split at q
  · rename_i ds hd
    split at q
    · rename_i d hF
      refine ⟨H, ds, _, Same.refl _, rs.datsH E.eB hd, hF, fun v H' N s1 s2 s3 r => ?_⟩
      rcases q with ⟨s, h1, h2⟩ | ⟨m, h1, h2⟩
      · cases h1
        have nn : Nx B H B H' := ⟨Same.refl _, E.eB.trans s1, s1, fun _ h _ => h⟩
        split at h2
        · rename_i hs
          exact h2 v B H' emp nn TF.emp (Rep.scal r hs)
        · exact h2 v B H' N nn ⟨s2, fun a ha => ⟨s3 a ha, E.eB.free (s3 a ha)⟩⟩ r
      · cases h1
    · rename_i d hF
      split at q
      · rename_i hv
        refine ⟨B, ds, _, E.eB, rs.datsB hv hd, hF, fun v B' H' nn r => ?_⟩
        rcases q with ⟨s, h1, h2⟩ | ⟨m, h1, h2⟩
        · cases h1
          exact h2 v B' H' emp nn TF.emp r
        · cases h1
      · exact (okNone q).elim
    · rename_i m hF
      refine ⟨H, ds, _, Same.refl _, rs.datsH E.eB hd, hF, fun c H' hc s1 => ?_⟩
      rcases q with ⟨s, h1, h2⟩ | ⟨m', h1, h2⟩
      · cases h1
      · cases h1
        exact h2 c B H' hc ⟨Same.refl _, E.eB.trans s1, s1, fun _ h _ => h⟩
    · exact (okNone q).elim
  · exact (okNone q).elim
theorem RZs.len : ∀ {vs : List V} {ss : List Sl}, RZs K H0 B H vs ss → vs.length = ss.length
  | _, _, .nil => rfl
  | _, _, .cons _ rs => congrArg (· + 1) rs.len
theorem evs_len : ∀ {fs : List EF} {ρ : Ev} {ss : List Sl}, evs fs ρ = some (.ok ss) → ss.length = fs.length
  | [], _, _, h => by cases h; rfl
  | f :: fs, ρ, ss, h => by
    unfold evs at h
    split at h
    · split at h
      · rename_i ss' hss
        cases h
        exact congrArg (· + 1) (evs_len hss)
      · rename_i hno; exact absurd h (hno ss)
    · cases h
    · cases h
/-- f(e, ..) -/
theorem pdCall (Fn : FG X.prog X.w X.K X.mg X.base k f fd ps (spD X.K X.mg n F)) (hr : Room k X.A) (hgd : X.A.guards = some []) (hm : X.mg x = some (.ref f)) (hk : PySem.W.keepIn X.K (.ref f) = true) (hb : Binds X.K fd ps []) (tk : Takes X W) (ha : PDs X H0 W (e :: es) fs) (hn : fs.length = n := by rfl) (hg : Gl X x := by rfl)
    (hdb : (x == ("__debug__" : Str)) = false := by decide) (he : starEach (e :: es) X.env = (false, eval e X.env) :: starEach es X.env := by rfl) (hpl : (backTo pos (starEach es X.env)).any (·.1) = false := by rfl) :
    PD X H0 W (.Call (.Name x p) (e :: es) [] pos) (eCall F fs) := ⟨peWeak (peCallG Fn hr hgd hg hm hk hb tk ha.pa hdb he hpl) fun σ H Q ⟨B, ρ, E, q⟩ => ⟨B, ρ, E, by
  have q' : OK X.K X.mg H0 W B H σ (bzs (evs fs ρ) fun ss => cRes F ss) Q := q
  cases r : evs fs ρ with
  | none => rw [r] at q'; exact (okNone q').elim
  | some o =>
    rw [r] at q'
    cases o with
    | ex m =>
      rcases q' with ⟨s, h1, h2⟩ | ⟨m', h1, h2⟩
      · cases h1
      · cases h1; exact .inr ⟨m, rfl, h2⟩
    | ok ss =>
      refine .inl ⟨ss, rfl, fun vs B1 H1 n1 rs => ?_⟩
      exact call_out (E.nx n1) rs (by rw [rs.len, evs_len r, hn]) (OK.nx q' n1)⟩⟩
theorem pdCall0 (Fn : FG X.prog X.w X.K X.mg X.base k f fd ps (spD X.K X.mg 0 F)) (hr : Room k X.A) (hgd : X.A.guards = some []) (hm : X.mg x = some (.ref f)) (hk : PySem.W.keepIn X.K (.ref f) = true) (hb : Binds X.K fd ps []) (tk : Takes X W) (hg : Gl X x := by rfl)
    (hdb : (x == ("__debug__" : Str)) = false := by decide) : PD X H0 W (.Call (.Name x p) [] [] pos) (eCall F []) := ⟨peWeak (peCallG0 Fn hr hgd hg hm hk hb tk hdb) fun σ H Q ⟨B, ρ, E, q⟩ => call_out E .nil rfl q⟩
end

/-! ### comprehensions -/
section
variable {X : Cx} {H0 : En} {W : WX} {K : PySem.W.Frag} {B H B' H' : Hp} {σ : L2.St} {mg : Str → Option Value} {ρ : Ev}
abbrev W0 : WX := fun _ _ _ _ => False
def lcL (t : GF) (tt : BF) (elt : EF) (ρ : Ev) : List Sl → Option (Bool × List PyData)
  | [] => some (true, [])
  | s :: ss => match t s ρ with
    | none => none
    | some ρ1 => match tt ρ1 with
      | some (.ok true) => match elt ρ1 with
        | some (.ok x) => match stor (frz x) with
          | some (f, d) => match lcL t tt elt ρ ss with
            | some (g, ds) => some (f && g, d :: ds)
            | none => none
          | none => none
        | _ => none
      | some (.ok false) => lcL t tt elt ρ ss
      | _ => none
def eLc (g : IF) (own : List Nat) (t : GF) (tt : BF) (elt : EF) : EF := fun ρ => match g ρ with
  | some (.ok its) => match lcL t tt elt (wipeE ρ own) its with
    | some (fr, ds) => if ds.length ≤ 16777216 then some (.ok (.own fr ds)) else none
    | none => none
  | some (.ex n) => some (.ex n)
  | none => none
def bYes : BF := fun _ => some (.ok true)
structure PBs (X : Cx) (H0 : En) (W : WX) (ifs : List Expr) (f : BF) : Prop where
  pts : PTs X ifs (tT X.K X.mg H0 W f)
theorem pbsNil : PBs X H0 W [] bYes := ⟨⟨fun pins s σ H Q I ⟨B, ρ, E, q⟩ => (pts_nil (X := X)).run pins s σ H Q I (by
  rcases q with ⟨b, h1, h2⟩ | ⟨m, h1, h2⟩
  · cases h1; exact h2 B H E.nx0
  · cases h1)⟩⟩
theorem pbsOne {c : Expr} {f : BF} (h : PB X H0 W c f) : PBs X H0 W [c] f := ⟨pts_one h.pt⟩
/-- a cell that is no slot's -/
theorem ff_upd {F : Nat → Hp} {D : Addr} {o : HO} (h : FF K H0 B H σ ρ F) (hB : B D = none) (hF : ∀ i, F i D = none) : FF K H0 B (upd H D o) σ ρ F :=
  ⟨fun i a u q => by rw [upd_ne (fun z => by subst z; rw [hF i] at q; cases q)]; exact h.1 i a u q, h.2.1, h.2.2.1, h.2.2.2⟩
theorem same_updD {B H : Hp} {D : Addr} {o : HO} (e : Same B H) (hB : B D = none) : Same B (upd H D o) := fun a u q => by
  rw [upd_ne (fun z => by subst z; rw [hB] at q; cases q)]; exact e a u q
theorem lc_ok {J : It} {its : List Sl} {g : TG} {tt : TT} {te : TE} {own : List Nat} {t : GF} {bt : BF} {elt : EF} {fr : Bool} {ds : List PyData} {Q : VK} {W' : WX} (E : ER K H0 B H σ ρ) (I1 : ItOk K H0 B J its)
    (hg : ∀ v σ H Q, tG K H0 t v σ H Q → g v σ H Q) (htt : ∀ σ H Q, tT K mg H0 W0 bt σ H Q → tt σ H Q) (hte : ∀ σ H Q, tZ K mg H0 W0 elt σ H Q → te σ H Q)
    (hgs : ∀ {v H} {R : L2.St → Hp → Prop}, g v (L2.wipe σ own) H R → g v (L2.wipe σ own) H fun σ' H' => L2.wipe σ' own = L2.wipe σ own ∧ R σ' H')
    (h : lcL t bt elt (wipeE ρ own) its = some (fr, ds)) (hz : ds.length ≤ 16777216) (q : KQ K H0 B H (.own fr ds) Q) :
    ∀ D, H D = none → ∃ Wv : Nat → Nat → Hp → Prop, (∃ m, Wv 0 m (upd H D (.lst []))) ∧ ∀ i m H, Wv i m H →
      (J.stop i H ∧ Q (.ref D) H) ∨ (J.go i H ∧ ∃ Nx : Hp → Prop, (∀ H', Nx H' → ∃ m', m' < m ∧ Wv (i + 1) m' H') ∧ ∀ x H', J.yld i H x H' → g x (L2.wipe σ own) H' fun σ2 H2 => L2.wipe σ2 own = L2.wipe σ own ∧ tt σ2 H2 fun b H3 =>
        if b = true then te σ2 H3 fun y H4 => ∃ acc, H4 D = some (.lst acc) ∧ acc.length < sizeLine ∧ Nx (upd H4 D (.lst (acc ++ [y]))) else Nx H3) := by
  intro D hD
  obtain ⟨F, hF⟩ := E.ex
  have hBD : B D = none := E.eB.free hD
  have hFD : ∀ i, F i D = none := fun i => (hF.1 i).free hD
  have h0D : H0.H D = none := E.e0.free hD
  -- the word: what is left of the walk, behind i turns
  refine ⟨fun i m H2 => m = its.length - i ∧ i ≤ its.length ∧ ∃ B2 acc da fa rest, FF K H0 B2 H2 (L2.wipe σ own) (wipeE ρ own) F ∧ Same H0.H H2 ∧ Nx B H B2 H2 ∧ B2 D = none ∧ H2 D = some (.lst acc) ∧ RepAll (LF K H0 B2 fa) acc da ∧
    lcL t bt elt (wipeE ρ own) (its.drop i) = some rest ∧ fr = (fa && rest.1) ∧ ds = da ++ rest.2, ⟨_, rfl, Nat.zero_le _, B, [], [], true, (fr, ds), ?_, ?_, ?_, hBD, upd_same, .nil, h, rfl, rfl⟩, ?_⟩
  · exact ff_upd (hF.wipe own) hBD hFD
  · exact same_updD E.e0 h0D
  · exact ⟨Same.refl _, same_updD E.eB hBD, same_upd hD, fun _ z _ => z⟩
  rintro i m H2 ⟨rfl, hi, B2, acc, da, fa, rest, f2, e0, n2, b2, hacc, ra, hl, e1, e2⟩
  have eB2 : Same B2 H2 := n2.bh
  by_cases hlt : i < its.length
  · refine .inr ⟨I1.go i B2 H2 n2.b eB2 hlt, ?_⟩
    have hd : its.drop i = its[i] :: its.drop (i + 1) := List.drop_eq_getElem_cons hlt
    rw [hd] at hl
    unfold lcL at hl
    cases rt : t its[i] (wipeE ρ own) with
    | none => rw [rt] at hl; cases hl
    | some ρ1 =>
      rw [rt] at hl
      dsimp only at hl
      refine ⟨fun H' => ∃ B5 acc5 da5 fa5 rest5, FF K H0 B5 H' (L2.wipe σ own) (wipeE ρ own) F ∧ Same H0.H H' ∧ Nx B H B5 H' ∧ B5 D = none ∧ H' D = some (.lst acc5) ∧ RepAll (LF K H0 B5 fa5) acc5 da5 ∧
        lcL t bt elt (wipeE ρ own) (its.drop (i + 1)) = some rest5 ∧ fr = (fa5 && rest5.1) ∧ ds = da5 ++ rest5.2, fun H' ⟨B5, acc5, da5, fa5, rest5, z⟩ => ⟨_, by omega, rfl, hlt, B5, acc5, da5, fa5, rest5, z⟩, fun x H3 hy => ?_⟩
      obtain ⟨B3, n3, rz⟩ := I1.yld i B2 H2 x H3 its[i] n2.b eB2 e0 (List.getElem?_eq_getElem hlt) hy
      have f3 : FF K H0 B3 H3 (L2.wipe σ own) (wipeE ρ own) F := f2.nx n3
      have E3 : ER K H0 B3 H3 (L2.wipe σ own) (wipeE ρ own) := ⟨e0.trans n3.h, E.b0.trans (n2.b.trans n3.b), fun a h1 h2 => n3.no a (n2.no a (E.n0 a h1 h2) (PL.Same.ne E.e0 h1)) (PL.Same.ne e0 h1), n3.bh, by rw [L2.wipe_length, wipeE_len]; exact E.len, F, f3⟩
      have hD2 : H2 D ≠ none := by rw [hacc]; simp
      have b3 : B3 D = none := n3.no D b2 hD2
      have hD3 : H3 D = some (.lst acc) := n3.h _ _ hacc
      have goal : g x (L2.wipe σ own) H3 fun σ2 H4 => tt σ2 H4 fun b H5 =>
          if b = true then te σ2 H5 fun y H6 => ∃ acc', H6 D = some (.lst acc') ∧ acc'.length < sizeLine ∧ ∃ B5 acc5 da5 fa5 rest5, FF K H0 B5 (upd H6 D (.lst (acc' ++ [y]))) (L2.wipe σ own) (wipeE ρ own) F ∧ Same H0.H (upd H6 D (.lst (acc' ++ [y]))) ∧ Nx B H B5 (upd H6 D (.lst (acc' ++ [y]))) ∧ B5 D = none ∧ (upd H6 D (.lst (acc' ++ [y]))) D = some (.lst acc5) ∧ RepAll (LF K H0 B5 fa5) acc5 da5 ∧
            lcL t bt elt (wipeE ρ own) (its.drop (i + 1)) = some rest5 ∧ fr = (fa5 && rest5.1) ∧ ds = da5 ++ rest5.2
          else ∃ B5 acc5 da5 fa5 rest5, FF K H0 B5 H5 (L2.wipe σ own) (wipeE ρ own) F ∧ Same H0.H H5 ∧ Nx B H B5 H5 ∧ B5 D = none ∧ H5 D = some (.lst acc5) ∧ RepAll (LF K H0 B5 fa5) acc5 da5 ∧
            lcL t bt elt (wipeE ρ own) (its.drop (i + 1)) = some rest5 ∧ fr = (fa5 && rest5.1) ∧ ds = da5 ++ rest5.2 := by
        refine hg _ _ _ _ ⟨B3, _, its[i], ρ1, E3, rz, rt, fun σ2 E4 => htt _ _ _ ⟨B3, ρ1, E4, ?_⟩⟩
        have n23 := n2.trans n3
        cases rb : bt ρ1 with
        | none => rw [rb] at hl; cases hl
        | some ob =>
          rw [rb] at hl
          cases ob with
          | ex m => cases hl
          | ok b =>
            refine .inl ⟨b, rfl, fun B4 H4 n4 => ?_⟩
            have hD4 : H4 D = some (.lst acc) := n4.h _ _ hD3
            have b4 : B4 D = none := n4.no D b3 (by rw [hD3]; simp)
            cases b with
            | false =>
              dsimp only; rw [if_neg Bool.false_ne_true]
              exact ⟨B4, acc, da, fa, rest, f3.nx n4, (e0.trans n3.h).trans n4.h, n23.trans n4, b4, hD4, ra.mono (LF.mono (n3.b.trans n4.b)), hl, e1, e2⟩
            | true =>
              dsimp only; rw [if_pos rfl]
              dsimp only at hl
              refine hte _ _ _ ⟨B4, ρ1, E4.nx n4, ?_⟩
              cases re : elt ρ1 with
              | none => rw [re] at hl; cases hl
              | some oe =>
                rw [re] at hl
                cases oe with
                | ex m => cases hl
                | ok xx =>
                  refine .inl ⟨xx, rfl, fun v B5 H5 n5 rz5 => ?_⟩
                  dsimp only at hl
                  split at hl
                  · rename_i f d hst
                    split at hl
                    · rename_i gg ds' hls
                      cases hl
                      dsimp only at e1 e2
                      have hD5 : H5 D = some (.lst acc) := n5.h _ _ hD4
                      have b5 : B5 D = none := n5.no D b4 (by rw [hD4]; simp)
                      have ra5 := (ra.mono (LF.mono ((n3.b.trans n4.b).trans n5.b)))
                      have rv := rz5.stor hst
                      refine ⟨acc, hD5, ?_, B5, acc ++ [v], da ++ [d], fa && f, (gg, ds'), ff_upd ((f3.nx n4).nx n5) b5 hFD, same_updD (((e0.trans n3.h).trans n4.h).trans n5.h) h0D, ?_, b5, upd_same, (ra5.mono LF.and1).append (.cons (rv.mono LF.and2) .nil), hls, by rw [e1, Bool.and_assoc], by rw [e2, List.append_assoc]; rfl⟩
                      · rw [ra.length, sizeLine_eq]
                        rw [e2, List.length_append, List.length_cons] at hz
                        omega
                      · have n5' := (n23.trans n4).trans n5
                        refine ⟨n5'.b, same_updD n5'.bh b5, fun a o z => ?_, n5'.no⟩
                        rw [upd_ne (fun y => by subst y; rw [hD] at z; cases z)]
                        exact n5'.h a o z
                    · cases hl
                  · cases hl
      exact hgs goal
  · have ei : i = its.length := by omega
    subst ei
    rw [List.drop_length] at hl
    cases hl
    refine .inl ⟨I1.stop _ B2 H2 n2.b eB2 (Nat.le_refl _), ?_⟩
    rw [Bool.and_true] at e1
    rw [List.append_nil] at e2
    subst e1; subst e2
    refine q (.ref D) B2 H2 (fun a => if a = D then some (.lst acc) else none) n2 ⟨fun a o z => ?_, fun a z => ?_⟩ ⟨D, acc, rfl, if_pos rfl, ra⟩
    · split at z
      · rename_i y; subst y; cases z; exact hacc
      · cases z
    · split at z
      · rename_i y; subst y; exact ⟨hD, b2⟩
      · exact absurd rfl z
theorem wipe_idem : ∀ (own : List Nat) (σ : L2.St), L2.wipe (L2.wipe σ own) own = L2.wipe σ own := by
  intro own σ
  apply List.ext_getElem?
  intro j
  by_cases hj : j ∈ own
  · have key : ∀ (vs : List Nat) (τ : L2.St), j ∈ vs → (L2.wipe τ vs)[j]? = if j < τ.length then some none else none := by
      intro vs
      induction vs with
      | nil => intro τ h; cases h
      | cons i r ih =>
        intro τ h
        show ((L2.wipe τ r).set i none)[j]? = _
        by_cases hij : i = j
        · subst hij
          by_cases hl : i < τ.length
          · rw [List.getElem?_set_self (by rw [L2.wipe_length]; exact hl), if_pos hl]
          · rw [List.getElem?_eq_none (by rw [List.length_set, L2.wipe_length]; omega), if_neg hl]
        · rw [List.getElem?_set_ne hij]
          exact ih τ (by rcases List.mem_cons.mp h with e | e; exact absurd e.symm hij; exact e)
    rw [key own _ hj, key own _ hj, L2.wipe_length]
  · rw [L2.wipe_out hj]
theorem wipe_set {i : Nat} {own : List Nat} (hi : i ∈ own) (σ : L2.St) (o : Option V) : L2.wipe (σ.set i o) own = L2.wipe σ own := by
  apply List.ext_getElem?
  intro j
  by_cases hj : j ∈ own
  · have key : ∀ (vs : List Nat) (τ : L2.St), j ∈ vs → (L2.wipe τ vs)[j]? = if j < τ.length then some none else none := by
      intro vs
      induction vs with
      | nil => intro τ h; cases h
      | cons i r ih =>
        intro τ h
        show ((L2.wipe τ r).set i none)[j]? = _
        by_cases hij : i = j
        · subst hij
          by_cases hl : i < τ.length
          · rw [List.getElem?_set_self (by rw [L2.wipe_length]; exact hl), if_pos hl]
          · rw [List.getElem?_eq_none (by rw [List.length_set, L2.wipe_length]; omega), if_neg hl]
        · rw [List.getElem?_set_ne hij]
          exact ih τ (by rcases List.mem_cons.mp h with e | e; exact absurd e.symm hij; exact e)
    rw [key own _ hj, key own _ hj, List.length_set]
  · rw [L2.wipe_out hj, L2.wipe_out hj, List.getElem?_set_ne (fun e : i = j => hj (by rw [← e]; exact hi))]
/-- a target that stores names of the block alone -/
def Keeps (own : List Nat) (g : TG) : Prop := ∀ {v : V} {σ : L2.St} {H : Hp} {R : L2.St → Hp → Prop}, g v σ H R → g v σ H fun σ' H' => L2.wipe σ' own = L2.wipe σ own ∧ R σ' H'
theorem keeps_name {own : List Nat} {i : Nat} (hi : i ∈ own) : Keeps own (gName i) := fun {v σ H R} h => ⟨wipe_set hi σ _, h⟩
/-- names, their values -/
def gNames (K : PySem.W.Frag) : List Nat → TGs
  | [] => gNil
  | i :: is => gCons (gName i) (gNames K is)
theorem keeps_names {own : List Nat} : ∀ {is : List Nat} {vs : List V} {σ : L2.St} {H : Hp} {R : L2.St → Hp → Prop}, (∀ i ∈ is, i ∈ own) → gNames K is vs σ H R → gNames K is vs σ H fun σ' H' => L2.wipe σ' own = L2.wipe σ own ∧ R σ' H'
  | [], _, _, _, _, _, h => ⟨h.1, rfl, h.2⟩
  | i :: is, vs, σ, H, R, hi, h => by
    obtain ⟨v, r, e, h⟩ := h
    have h' := keeps_names (own := own) (is := is) (fun j hj => hi j (List.mem_cons_of_mem _ hj)) h
    rw [wipe_set (hi i List.mem_cons_self)] at h'
    exact ⟨v, r, e, h'⟩
theorem keeps_tup {own : List Nat} {is : List Nat} (hi : ∀ i ∈ is, i ∈ own) : Keeps own (gTup K is.length (gNames K is)) := fun {v σ H R} ⟨a, xs, e, s, l, h⟩ => ⟨a, xs, e, s, l, keeps_names hi h⟩
theorem pgsNames {es : List Expr} {is : List Nat} {X : Cx} (h : PGs X es (gNames X.K is)) : True := trivial
/-- the target as the block sees it -/
structure PGB (X : Cx) (H0 : En) (own : List Nat) (tg : Expr) (g : TG) (t : GF) : Prop where
  pg : ∀ (s : Shared) (H : Hp) (C : Addr) (cl : List (Str × Addr)) (fp : List Addr) (scope : Scope), True
section
variable {elt tg iter : Expr} {ifs : List Expr} {scope : Scope} {own : List (Str × Nat)} {pos : Pos} {g : IF} {t : GF} {bt : BF} {ef : EF} {gt : TG}
theorem eLc_ok {wi : TI} (hw : wi = tI X.K X.mg H0 W g) (hgt : ∀ v σ H Q, tG X.K H0 t v σ H Q → gt v σ H Q) (hk : Keeps (own.map (·.2)) gt) {Q : VK} (E : ER X.K H0 B H σ ρ) (q : OK X.K X.mg H0 W B H σ (eLc g (own.map (·.2)) t bt ef ρ) Q) :
    tLc wi gt (tT X.K X.mg H0 W0 bt) (tZ X.K X.mg H0 W0 ef) (own.map (·.2)) σ H Q := by
  subst hw
  refine ⟨B, ρ, E, ?_⟩
  unfold eLc at q
  cases r : g ρ with
  | none => rw [r] at q; exact (okNone q).elim
  | some o =>
    rw [r] at q
    cases o with
    | ex m =>
      rcases q with ⟨s, h1, h2⟩ | ⟨m', h1, h2⟩
      · cases h1
      · cases h1; exact .inr ⟨m, rfl, h2⟩
    | ok its =>
      refine .inl ⟨its, rfl, fun J B1 H1 n1 I1 => ?_⟩
      dsimp only at q
      split at q
      · rename_i fr ds hl
        split at q
        · rename_i hz
          rcases q with ⟨s, h1, h2⟩ | ⟨m', h1, h2⟩
          · cases h1
            refine lc_ok (mg := X.mg) (W' := W) (E.nx n1) I1 hgt (fun _ _ _ z => z) (fun _ _ _ z => z) (fun {v H R} h => ?_) hl hz (h2.nx n1)
            have z := hk h
            rw [wipe_idem] at z
            exact z
          · cases h1
        · exact (okNone q).elim
      · exact (okNone q).elim
theorem pdLc (hc : X.calm = true) (hN : X.N.Nodup) (hi : PID X H0 W tg iter g) (ok : BlkOk X.N X.env.scope scope own) (hgt : ∀ v σ H Q, tG X.K H0 t v σ H Q → gt v σ H Q) (hk : Keeps (own.map (·.2)) gt)
    (hg : ∀ (s : Shared) (H : Hp) (C : Addr) (cl : List (Str × Addr)) (fp : List Addr), PG (X.blk s H scope (compEnvC scope cl C X.env) fp) tg gt) (ht : ∀ (s : Shared) (H : Hp) (C : Addr) (cl : List (Str × Addr)) (fp : List Addr), PBs (X.blk s H scope (compEnvC scope cl C X.env) fp) H0 W0 ifs bt)
    (he : ∀ (s : Shared) (H : Hp) (C : Addr) (cl : List (Str × Addr)) (fp : List Addr), PD (X.blk s H scope (compEnvC scope cl C X.env) fp) H0 W0 elt ef) (hs : ∀ x, foldedSetIterable iter X.env x = pure x := by intro _; rfl) :
    PD X H0 W (.ListComp elt [⟨tg, iter, ifs, 0⟩] scope pos) (eLc g (own.map (·.2)) t bt ef) :=
  ⟨peWeak (pe_lc hc hN hi.pi ok hg (fun s H C cl fp => (ht s H C cl fp).pts) (fun s H C cl fp => (he s H C cl fp).z) hs) fun σ H Q ⟨B, ρ, E, q⟩ => eLc_ok rfl hgt hk E q⟩
/-- name = [..] -/
theorem psdSetLc {i : Nat} {y : Str} {py spos : Pos} (hc : X.calm = true) (hN : X.N.Nodup) (hy : X.N[i]? = some y) (hyl : X.env.scope.names.lookup y = some .local) (hsw : swapsWith (.ListComp elt [⟨tg, iter, ifs, 0⟩] scope pos) (some (.Name y py)) spos.line X.env = pure true)
    (hi : PID X H0 W tg iter g) (ok : BlkOk X.N X.env.scope scope own) (hgt : ∀ v σ H Q, tG X.K H0 t v σ H Q → gt v σ H Q) (hk : Keeps (own.map (·.2)) gt)
    (hg : ∀ (s : Shared) (H : Hp) (C : Addr) (cl : List (Str × Addr)) (fp : List Addr), PG (X.blk s H scope (compEnvC scope cl C X.env) fp) tg gt) (ht : ∀ (s : Shared) (H : Hp) (C : Addr) (cl : List (Str × Addr)) (fp : List Addr), PBs (X.blk s H scope (compEnvC scope cl C X.env) fp) H0 W0 ifs bt)
    (he : ∀ (s : Shared) (H : Hp) (C : Addr) (cl : List (Str × Addr)) (fp : List Addr), PD (X.blk s H scope (compEnvC scope cl C X.env) fp) H0 W0 elt ef) (hs : ∀ x, foldedSetIterable iter X.env x = pure x := by intro _; rfl) :
    PSD X H0 W (.Assign [.Name y py] (.ListComp elt [⟨tg, iter, ifs, 0⟩] scope pos) spos) (sSet i (eLc g (own.map (·.2)) t bt ef)) :=
  ⟨psWeak (ps_setLc hc hN hy hyl hsw hi.pi ok hg (fun s H C cl fp => (ht s H C cl fp).pts) (fun s H C cl fp => (he s H C cl fp).z) hs) fun D σ H ⟨B, ρ, o, E, h, ho⟩ => eLc_ok rfl hgt hk E (bS_ok E h ho fun s v B' H' T n t' r q ho' => by
    split at q
    · rename_i hs; cases q
      exact ho' _ B' H' (E.set n t' r hs) (Same.refl _)
    · cases q)⟩
theorem psdSetZLc {i : Nat} {y : Str} {py spos : Pos} (hc : X.calm = true) (hN : X.N.Nodup) (hy : X.N[i]? = some y) (hyl : X.env.scope.names.lookup y = some .local) (hsw : swapsWith (.ListComp elt [⟨tg, iter, ifs, 0⟩] scope pos) (some (.Name y py)) spos.line X.env = pure true)
    (hi : PID X H0 W tg iter g) (ok : BlkOk X.N X.env.scope scope own) (hgt : ∀ v σ H Q, tG X.K H0 t v σ H Q → gt v σ H Q) (hk : Keeps (own.map (·.2)) gt)
    (hg : ∀ (s : Shared) (H : Hp) (C : Addr) (cl : List (Str × Addr)) (fp : List Addr), PG (X.blk s H scope (compEnvC scope cl C X.env) fp) tg gt) (ht : ∀ (s : Shared) (H : Hp) (C : Addr) (cl : List (Str × Addr)) (fp : List Addr), PBs (X.blk s H scope (compEnvC scope cl C X.env) fp) H0 W0 ifs bt)
    (he : ∀ (s : Shared) (H : Hp) (C : Addr) (cl : List (Str × Addr)) (fp : List Addr), PD (X.blk s H scope (compEnvC scope cl C X.env) fp) H0 W0 elt ef) (hs : ∀ x, foldedSetIterable iter X.env x = pure x := by intro _; rfl) :
    PSD X H0 W (.Assign [.Name y py] (.ListComp elt [⟨tg, iter, ifs, 0⟩] scope pos) spos) (sSetZ i (eLc g (own.map (·.2)) t bt ef)) :=
  ⟨psWeak (ps_setLc hc hN hy hyl hsw hi.pi ok hg (fun s H C cl fp => (ht s H C cl fp).pts) (fun s H C cl fp => (he s H C cl fp).z) hs) fun D σ H ⟨B, ρ, o, E, h, ho⟩ => eLc_ok rfl hgt hk E (by
    have z := bSz_ok (R := fun v H' => gName i v σ H' D.nx) E h ho fun s v B' H' n r q ho' => by
      split at q
      · rename_i hs; cases q
        exact ho' _ B' H' (E.set n TF.emp r.rr hs) (Same.refl _)
      · cases q
    rcases z with ⟨s, h1, h2⟩ | ⟨m, h1, h2⟩
    · exact .inl ⟨s, h1, h2.toQ E.e0 E.eB⟩
    · exact .inr ⟨m, h1, h2⟩)⟩
/-- a name as the block's target -/
theorem tg_name {i : Nat} : ∀ v σ H Q, tG X.K H0 (gN i) v σ H Q → gName i v σ H Q := fun v σ H Q ⟨B, ρ, s, ρ', E, r, h, q⟩ => by
  unfold gN at h
  split at h
  · rename_i hs; cases h
    exact q _ (E.set E.nx0 TF.emp r.rr hs)
  · cases h
theorem tg_names : ∀ {is : List Nat} {vs : List V} {σ : L2.St} {H : Hp} {Q : L2.St → Hp → Prop}, tGs X.K H0 is vs σ H Q → gNames X.K is vs σ H Q
  | [], vs, σ, H, Q, ⟨B, ρ, ss, ρ', E, rz, h, q⟩ => by
    cases ss with
    | cons _ _ => cases h
    | nil => cases h; cases rz; exact ⟨rfl, q σ E⟩
  | i :: is, vs, σ, H, Q, ⟨B, ρ, ss, ρ', E, rz, h, q⟩ => by
    cases rz with
    | nil => cases h
    | @cons v vs' s1 ss' r1 rs =>
      unfold gSets at h
      split at h
      · rename_i hs1
        exact ⟨v, vs', rfl, tg_names ⟨B, _, ss', ρ', E.set E.nx0 TF.emp r1.rr hs1, rs, h, q⟩⟩
      · cases h
theorem tg_tup {is : List Nat} : ∀ v σ H Q, tG X.K H0 (gT is) v σ H Q → gTup X.K is.length (gNames X.K is) v σ H Q := fun v σ H Q ⟨B, ρ, s, ρ', E, r, hh, q⟩ => by
  unfold gT itemsT at hh
  split at hh
  · rename_i ss hss
    split at hss
    · rename_i fr ds hd
      cases hss
      obtain ⟨p, vs, rfl, s1, a1⟩ := r.tup E.eB hd
      have hl := gSets_len hh
      rw [List.length_map] at hl
      exact ⟨p, vs, rfl, s1, by rw [a1.length, hl], tg_names ⟨B, ρ, _, ρ', E, rzs_map a1, hh, q⟩⟩
    · cases hss
  · cases hh
end
end

/-! ### changes of own lists -/
section
variable {X : Cx} {H0 : En} {W : WX} {e a b c : Expr} {es : List Expr} {f g : EF} {pos apos cpos : Pos} {K : PySem.W.Frag} {B H B' H' : Hp} {σ : L2.St} {mg : Str → Option Value} {ρ : Ev}
/-- slot i's own list is written -/
theorem ER.wr {i : Nat} {p : Addr} {fr fr' : Bool} {ds ds' : List PyData} {vs' : List V} (E : ER K H0 B H σ ρ) (hi : ρ[i]? = some (.own fr ds)) (hp : σ[i]? = some (some (.ref p))) (r' : RepAll (LF K H0 B fr') vs' ds') :
    ER K H0 B (upd H p (.lst vs')) σ (ρ.set i (.own fr' ds')) := by
  obtain ⟨F, f1, f2, f3, f4⟩ := E.ex
  obtain ⟨p', vs, e1, e2, r1⟩ := f4 i _ hi
  have epp : p' = p := by rw [hp] at e1; cases e1; rfl
  subst epp
  have hF : F i p' ≠ none := by rw [e2]; simp
  obtain ⟨g1, g2⟩ := f2 i p' hF
  refine ⟨same_updD E.e0 g2, E.b0, E.n0, same_updD E.eB g1, by rw [List.length_set]; exact E.len, fun j => if j = i then upd (F i) p' (.lst vs') else F j, ⟨fun j => ?_, fun j a h => ?_, fun j k a hjk h => ?_, fun j u hu => ?_⟩⟩
  · dsimp only
    split
    · intro a o q
      by_cases ha : a = p'
      · subst ha; rw [upd_same] at q ⊢; exact q
      · rw [upd_ne ha] at q ⊢; exact f1 i a o q
    · rename_i hj
      exact same_updD (f1 j) (f3 i j p' (Ne.symm hj) hF)
  · dsimp only at h
    split at h
    · by_cases ha : a = p'
      · subst ha; exact ⟨g1, g2⟩
      · rw [upd_ne ha] at h; exact f2 i a h
    · exact f2 j a h
  · dsimp only at h ⊢
    split at h
    · rename_i hji
      rw [if_neg (by omega)]
      by_cases ha : a = p'
      · subst ha; exact f3 i k a (by omega) hF
      · rw [upd_ne ha] at h; exact f3 i k a (by omega) h
    · split
      · rename_i hji hki
        have ha : a ≠ p' := fun z => by subst z; exact h (f3 i j a (Ne.symm hji) hF)
        rw [upd_ne ha]
        exact f3 j i a hji h
      · exact f3 j k a hjk h
  · dsimp only
    by_cases hj : j = i
    · subst hj
      have hl : j < ρ.length := by have := (List.getElem?_eq_some_iff.mp hu).1; rwa [List.length_set] at this
      rw [List.getElem?_set_self hl] at hu
      have hu' := Option.some.inj hu
      subst hu'
      rw [if_pos rfl]
      exact ⟨p', vs', hp, upd_same, r'⟩
    · rw [List.getElem?_set_ne (Ne.symm hj)] at hu
      rw [if_neg hj]
      exact f4 j u hu
/-- x.append(e) -/
def sApp (i : Nat) (f : EF) : SF := fun ρ => match ρ[i]? with
  | some (.own fr ds) => bSz (f ρ) ρ fun s => match stor s with
    | some (f', d) => if ds.length < 16777216 then some (.nx (ρ.set i (.own (fr && f') (ds ++ [d])))) else none
    | none => none
  | _ => none
theorem psdApp {i : Nat} {o : Expr} (ho : PE X o (tVar i)) (he : PD X H0 W e f) (hbase : attributeBase o "append" X.env (eval o X.env) = eval o X.env := by rfl)
    (hfew : ((backTo cpos (starEach (e :: []) X.env)).all (fun x => !x.1) && (backToKw cpos (keywordEach [] X.env)).all (fun x => x.1.isSome) && decide ((e :: []).length + ([] : List Keyword).length + (if ([] : List Keyword).isEmpty then 0 else 1) < 30)) = true := by rfl)
    (hline : (apos.endLine == cpos.line) = true := by rfl) (hs : starEach (e :: []) X.env = (false, eval e X.env) :: starEach [] X.env := by rfl) (hplain : (backTo cpos (starEach [] X.env)).any (·.1) = false := by rfl)
    (hsw : swapsWith (.Call (.Attribute o "append" apos) [e] [] cpos) none pos.line X.env = pure false := by rfl) : PSD X H0 W (.Expr (.Call (.Attribute o "append" apos) [e] [] cpos) pos) (sApp i f) := ⟨psWeak (ps_expr (pe_bm PySem.F.plainAttrs_list PySem.F.slot_list_append PySem.F.type_list_append mt_append ho (pa_cons he.z pa_nil hs) hbase hfew hline hs hplain) hsw) fun D σ H ⟨B, ρ, o, E, h, ho⟩ => by
  unfold sApp at h
  split at h
  · rename_i fr ds hi
    obtain ⟨F, f1, f2, f3, f4⟩ := E.ex
    obtain ⟨p, vs, e1, e2, r1⟩ := f4 i _ hi
    have hH : H p = some (.lst vs) := f1 i _ _ e2
    refine ⟨.ref p, e1, .inl ⟨rfl, vs, SqL.of hH⟩, B, ρ, E, bSz_ok E h ho fun s v B' H' n r q ho' => ?_⟩
    split at q
    · rename_i f' d hst
      split at q
      · rename_i hz
        cases q
        have r' := r1.mono (LF.mono n.b)
        refine ⟨p, vs, v, rfl, rfl, n.h _ _ hH, by rw [r1.length, sizeLine_eq]; exact hz, ?_⟩
        exact ho' σ B' _ ((E.nx n).wr hi e1 ((r'.mono LF.and1).append (.cons ((r.stor hst).mono LF.and2) .nil))) (Same.refl _)
      · cases q
    · cases q
  · cases h⟩
/-- x[j] = e -/
def sPut (i : Nat) (fi f : EF) : SF := fun ρ => match ρ[i]? with
  | some (.own fr ds) => bSz (f ρ) ρ fun s => bSz (fi ρ) ρ fun z => match stor s with
    | some (f', d) => match dat z with
      | some (.int k) => match ixN ds.length k with
        | some j => some (.nx (ρ.set i (.own (fr && f') (ds.set j d))))
        | none => none
      | _ => none
    | none => none
  | _ => none
theorem psdPut {i : Nat} {o j : Expr} (ho : PE X o (tVar i)) (hj : PD X H0 W j g) (he : PD X H0 W e f) (hs : swapsWithSole [.Subscript o j apos] e pos.line X.env = pure false := by rfl) (hw : swappedStores [.Subscript o j apos] e X.env = pure none := by rfl) (h1 : (assignEach [.Subscript o j apos] X.env).map (·.2) = [assign (.Subscript o j apos) X.env] := by rfl)
    (ha : ∀ v, assign (.Subscript o j apos) X.env v = (do
      let ov ← holding [v] (eval o X.env)
      let iv ← holding [v, ov] (eval j X.env)
      standAt apos
      holding [v, ov, iv] (setItem ov iv v)
      release [v, ov, iv] []) := by intro _; rfl) : PSD X H0 W (.Assign [.Subscript o j apos] e pos) (sPut i g f) := ⟨psWeak (ps_asg he.z (pg_sub ho hj.z set_list ha) hs hw h1) fun D σ H ⟨B, ρ, o, E, h, ho⟩ => by
  unfold sPut at h
  split at h
  · rename_i fr ds hi
    refine ⟨B, ρ, E, bSz_ok E h ho fun s v B' H' n r q ho' => ?_⟩
    have E1 := E.nx n
    obtain ⟨F, f1, f2, f3, f4⟩ := E1.ex
    obtain ⟨p, vs, e1, e2, r1⟩ := f4 i _ hi
    have hH : H' p = some (.lst vs) := f1 i _ _ e2
    refine ⟨.ref p, e1, B', ρ, E1, bSz_ok E1 q ho' fun z w B2 H2 n2 r2 q2 ho2 => ?_⟩
    split at q2
    · rename_i f' d hst
      split at q2
      · rename_i k hk
        split at q2
        · rename_i jj hjj
          cases q2
          have r' := r1.mono (LF.mono n2.b)
          refine ⟨p, vs, k, jj, rfl, (r2.data n2.bh hk).intV, n2.h _ _ hH, by rw [r1.length]; exact hjj, ?_⟩
          exact ho2 σ B2 _ ((E1.nx n2).wr hi e1 ((r'.mono LF.and1).set (((r.mono n2).stor hst).mono LF.and2) jj)) (Same.refl _)
        · cases q2
      · cases q2
    · cases q2
  · cases h⟩
/-- a slot's own list is frozen -/
def gFrz (i : Nat) (ρ : Ev) : Option Ev := match ρ[i]? with
  | some s => some (ρ.set i (frz s))
  | none => none
theorem frz_ok {i : Nat} {ρ' : Ev} (E : ER K H0 B H σ ρ) (h : gFrz i ρ = some ρ') : ∃ B', ER K H0 B' H σ ρ' ∧ Same B B' := by
  unfold gFrz at h
  split at h
  · rename_i s hs
    cases h
    obtain ⟨F, f1, f2, f3, f4⟩ := E.ex
    have hi : i < ρ.length := (List.getElem?_eq_some_iff.mp hs).1
    have sr := f4 i s hs
    have g : ∀ a o, F i a = some o → B a = none ∧ H0.H a = none := fun a o q => f2 i a (by rw [q]; simp)
    have sB : Same B (un B (F i)) := fun a o q => by unfold un; rw [q]
    have sF : Same (F i) (un B (F i)) := fun a o q => by unfold un; rw [(g a o q).1]; exact q
    refine ⟨un B (F i), ⟨E.e0, E.b0.trans sB, fun a h1 h2 => ?_, fun a o q => ?_, by rw [List.length_set]; exact E.len, fun j => if j = i then emp else F j, ⟨fun j => ?_, fun j a h => ?_, fun j k a hjk h => ?_, fun j u hu => ?_⟩⟩, sB⟩
    · unfold un
      rw [E.n0 a h1 h2]
      cases z : F i a with
      | none => rfl
      | some o => exact absurd (g a o z).2 h1
    · unfold un at q
      cases z : B a with
      | some u => rw [z] at q; cases q; exact E.eB _ _ z
      | none => rw [z] at q; exact f1 i _ _ q
    · dsimp only
      split
      · exact fun _ _ z => nomatch z
      · exact f1 j
    · dsimp only at h
      split at h
      · exact absurd rfl h
      · rename_i hji
        refine ⟨?_, (f2 j a h).2⟩
        unfold un
        rw [(f2 j a h).1]
        exact f3 j i a hji h
    · dsimp only at h ⊢
      split at h
      · exact absurd rfl h
      · split
        · rfl
        · exact f3 j k a hjk h
    · dsimp only
      by_cases hj : j = i
      · subst hj
        rw [List.getElem?_set_self hi] at hu
        have hu' := Option.some.inj hu
        subst hu'
        cases s with
        | und => trivial
        | val fr d => obtain ⟨v, e1, e2⟩ := sr; exact ⟨v, e1, e2.mono (LF.mono sB)⟩
        | own fr ds =>
          obtain ⟨p, vs, e1, e2, r1⟩ := sr
          refine ⟨_, e1, .lst ?_ (r1.mono (LF.mono sB))⟩
          cases fr with
          | true => exact nw_of (g p _ e2).2 (sF _ _ e2)
          | false => exact SqL.of (sF _ _ e2)
        | full d =>
          obtain ⟨v, e1, r1⟩ := sr
          exact ⟨v, e1, Rep.mono (fun a o q => nw_of (g a o q).2 (sF a o q)) r1⟩
        | bor _ _ => exact sr.elim
        | brf _ => exact sr.elim
      · rw [List.getElem?_set_ne (Ne.symm hj)] at hu
        rw [if_neg hj]
        exact (f4 j u hu).mono sB
  · cases h
theorem psdsFrz {i : Nat} {sts : List Stmt} {F : SF} (h : PSDs X H0 W sts F) : PSDs X H0 W sts (fun ρ => match gFrz i ρ with | some ρ' => F ρ' | none => none) := psdsGhost (gFrz i) (fun B H σ ρ ρ' E q => frz_ok E q) h
end
end PL

/-! PL7: the law's head, over a contract where no repr runs around. -/
namespace PL
open PySem PySem.Spec PyProof.Rows L2

section
variable {P : Program} {w : World} {K : PySem.W.Frag} {mg mb : Str → Option Value} {k : Nat} {fa a : Addr} {fd : FuncData} {x : Str} {sp : Sp} {s₁ : Shared} {vs : List Value} {ns : List Int}
/-- the abstract heap that tracks the script at most -/
structure Scr (K : PySem.W.Frag) (a : Addr) (ns : List Int) (h : Heap) (H : Hp) : Prop where
  only : Only H
  sq : SqL K H a (ns.map V.int)
  at' : ∀ b, H b ≠ none → b = a
  nk : H a ≠ none → K.lookup a = none
theorem lawRun (KX : K.In s₁.heap) (hns : s₁.heap.Ns mainGlobals mg) (hb : s₁.heap.Ns builtinsNs mb) (hbb : ∀ x : Str, x ≠ "__name__" → mb x = bootBuiltins x) (hlim : s₁.heap.NoLimit) (hg : s₁.gens = #[])
    (ha : s₁.heap.get? a = some { cls := .type "list", data := .seq vs.toArray }) (hr : Room k callerA) (F : ∀ base : Heap, K.In base → base.Ns mainGlobals mg → FG P w K mg base k fa fd [x] sp) (hbind : ∀ (s : Shared) (u : Value), BindsTo s fd ⟨[u], []⟩ [(x, u)])
    {H : Hp} (S : Scr K a ns s₁.heap H) (hok : HOk P w H s₁.heap) (hsp : sp [.ref a] H (fun v _ => v = .bl true) fun _ _ _ => False) :
    codeAny (model P w) callerA (.call (.ref fa) ⟨[.ref a], []⟩) (fun r s' => r = .ok (.ret (.bool true)) ∧ OldK s₁.heap s'.heap ∧ s'.os = s₁.os ∧ AllBare s'.gens) s₁ := by
  have free : ∀ {b : Addr} {o : Obj}, s₁.heap.get? b = some o → (∀ v n, o.data = .seq v n → b ≠ a) → H b = none := by
    intro b o e d
    cases q : H b with
    | none => rfl
    | some u =>
      have eb := S.at' b (by rw [q]; simp)
      subst eb
      have ee := ha.symm.trans e
      cases ee
      exact absurd rfl (d _ _ rfl)
  have toB : ∀ {b : Addr} {o : Obj}, s₁.heap.get? b = some o → H b = none → (hidT s₁.heap H).get? b = some o := hidT_get
  have nsT : ∀ {b : Addr} {m : Str → Option Value}, s₁.heap.Ns b m → (hidT s₁.heap H).Ns b m := by
    intro b m ⟨o, es, ep, e, d, r⟩
    exact ⟨o, es, ep, toB e (free e (fun v n z => by rw [d] at z; cases z)), d, r⟩
  have KB : K.In (hidT s₁.heap H) := by
    intro b o e
    refine toB (KX b o e) ?_
    cases q : H b with
    | none => rfl
    | some u =>
      have eb := S.at' b (by rw [q]; simp)
      subst eb
      rw [S.nk (by rw [q]; simp)] at e
      cases e
  obtain ⟨mc, l1, l2⟩ := hlim
  have M : Mod K mg (hidT s₁.heap H) := ⟨KB, nsT hns, ⟨mb, nsT hb, hbb⟩, ⟨mc, nsT l1, l2⟩⟩
  have none_in : ∀ b : Addr, b ∉ ([] : List Addr) := fun b z => by simp at z
  have e0 : Env0 P w K mg (hidT s₁.heap H) callerA [] s₁ H := ⟨rfl, M, fun b o e => of_hidT e, Nat.le_of_eq (hidT_size _ _), trivial, fun b hb => absurd hb (none_in b), hok, .of_eq hg⟩
  have run := (F _ KB (nsT hns)).go callerA [] s₁ H ⟨[.ref a], []⟩ [.ref a] [.ref a] _ _ hr rfl e0 (hbind s₁ (.ref a)) (.cons rfl .nil) hsp
  refine codeAny_mono run fun r s' hq => ?_
  match r, hq with
  | .ok .next, hq => exact hq.elim
  | .ok .brk, hq => exact hq.elim
  | .ok .cont, hq => exact hq.elim
  | .error e, ⟨_, _, _, _, _, _, _, _, _, _, _, _, z⟩ => exact z.elim
  | .ok (.ret u), ⟨v, H', os, bare, u1, hok', rv, q⟩ =>
    have qv : v = .bl true := q
    subst qv
    cases (show u = Value.bool true from rv)
    refine ⟨rfl, OldK.of_keep fun b o e => ?_, os, bare⟩
    rcases S.only b with z | ⟨ob, xs, z⟩
    · exact u1.keep b o e z (none_in b) (none_in b)
    · have k1 : s₁.heap.get? b = some ob := (hok b _ z).1
      have k2 : s'.heap.get? b = some ob := (hok' b _ (u1.frzs b ob _ z)).1
      rw [k2, ← k1, e]
theorem scr_ex (KX : K.In s₁.heap) (ha : s₁.heap.get? a = some { cls := .type "list", data := .seq vs.toArray }) (hi : IntsAre vs ns) (hl : ns.length ≤ sizeLine) : ∃ H : Hp, Scr K a ns s₁.heap H ∧ HOk P w H s₁.heap := by
  have rv := vals_ints hi
  have lv := hi.length
  by_cases hk : K.lookup a = none
  · refine ⟨fun b => if b = a then some (.frz { cls := .type "list", data := .seq vs.toArray } (.lst (ns.map V.int))) else none, ⟨fun b => ?_, .inl (.inr ⟨{ cls := .type "list", data := .seq vs.toArray }, if_pos rfl⟩), fun b z => ?_, fun _ => hk⟩, fun b u z => ?_⟩
    · by_cases e : b = a
      · right; exact ⟨_, _, if_pos e⟩
      · left; exact if_neg e
    · by_cases e : b = a
      · exact e
      · exact absurd (if_neg e) z
    · dsimp only at z
      by_cases e : b = a
      · rw [if_pos e] at z
        cases z
        rw [e]
        exact ⟨ha, by rw [List.length_map]; exact hl, vs, _, rv, ha⟩
      · rw [if_neg e] at z; cases z
  · obtain ⟨o, ho⟩ : ∃ o, K.lookup a = some o := by
      cases q : K.lookup a with
      | none => exact absurd q hk
      | some o => exact ⟨o, rfl⟩
    have e := (KX a o ho).symm.trans ha
    cases e
    refine ⟨fun _ => none, ⟨fun b => .inl rfl, .inr ⟨_, vs.toArray, _, ho, rfl, rfl, rfl, by rw [List.size_toArray, lv]; exact hl, by simpa using rv⟩, fun b z => absurd rfl z, fun z => absurd rfl z⟩, fun b u z => nomatch z⟩
end
/-- the goal that k_head leaves: from the law's function on data -/
theorem walkG {l : PySem.W.OpenLaw} {k : Nat} {q : Program} {loose : List Str} {XP : (Str → Option Value) → Heap → Prop} {YP : World → Heap → Prop} {d : DefRec} {K : Params → PySem.W.Frag} {x : Str} {LF : FN}
    (hn : l.most = some 63) (hdf : d.params.defaults = []) (hr : Room k callerA) (hY : ∀ (w : World) (h : Heap), YP w h → (K w.params).In h)
    (F : ∀ (w : World) (mg : Str → Option Value) (fa : Addr) (h : Heap), (K w.params).In h → h.Ns mainGlobals mg → mg d.name = some (.ref fa) →
      ∃ fd : FuncData, (∀ (s : Shared) (u : Value), BindsTo s fd ⟨[u], []⟩ [(x, u)]) ∧ ∀ base : Heap, (K w.params).In base → base.Ns mainGlobals mg → FG l.prog w (K w.params) mg base k fa fd [x] (spD (K w.params) mg 1 LF))
    (hL : ∀ ns : List Int, ns.length ≤ 63 → LF [.list (ns.map .int)] = some (.ret true (.bool true))) :
    PySem.W.WalkO q loose XP YP l.row.toRowW d [] (fun f vs => PySem.call f vs) := by
  refine Att.attach_call hn hdf fun w s₀ s₁ mg mb fa o pm cd doc a vs ns G Y ho hd hcd hmg hobj hints hlen hg => ?_
  have KX := hY w _ Y
  obtain ⟨fd, hb, hF⟩ := F w mg fa _ KX G.T.g hmg
  obtain ⟨H, S, hok⟩ := scr_ex (P := l.prog) (w := w) KX hobj hints (Nat.le_trans hlen (by rw [sizeLine_eq]; decide))
  refine lawRun KX G.T.g G.T.b G.T.builtins G.T.nolimit hg hobj hr hF hb S hok ⟨rfl, H, [.list (ns.map .int)], _, Same.refl _, .cons (.lst S.sq (RepAll.ints _ ns)) .nil, hL ns hlen, fun v H' N s1 s2 s3 r => ?_⟩
  exact r.blV
end PL

/-! PL8: more built-ins: isinstance, sum, min, max, any, all, list, tuple, sorted. -/
namespace PL
open PySem PySem.Spec PyProof.Rows L2

section
variable {X : Cx} {H0 : En} {W : WX} {e a b c : Expr} {es : List Expr} {f g k : EF} {fs : List EF} {pos p p2 : Pos} {K : PySem.W.Frag} {B H B' H' : Hp} {σ : L2.St} {mg : Str → Option Value} {x : Str}

/-! ### isinstance -/
def IsaR (X : Cx) (T : String) (g : PyData → Bool) : Prop := ∀ (s : Shared) (v : Value) (d : PyData) (as : List Addr) (Q : Value → Shared → Prop), Reads s.heap v d as → (∀ tk, s.toks ≤ tk → Q (.bool (g d)) { s with toks := tk }) → wpAny (model X.prog X.w) X.A (call (.builtin "isinstance") [v, .type T]) Q X.xe s
theorem isaList : IsaR X "list" PyData.isList := fun _ _ _ _ _ r h => PySem.W.isinstance_list_data r h
theorem isaTuple : IsaR X "tuple" PyData.isTuple := fun _ _ _ _ _ r h => PySem.W.isinstance_tuple_data r h
theorem isaBool : IsaR X "bool" PyData.isBool := fun _ _ _ _ _ r h => PySem.W.isinstance_bool_data r h
theorem isaInt : IsaR X "int" PyData.isInt := fun _ _ _ _ _ r h => PySem.W.isinstance_int_data r h
theorem isaStr : IsaR X "str" PyData.isStr := fun _ _ _ _ _ r h => PySem.W.isinstance_str_data r h
def rIsa (K : PySem.W.Frag) (T : String) (g : PyData → Bool) : List V → Hp → VK → Prop := fun vs H Q => ∃ x d, vs = [x, .ty T] ∧ Rep (LH K H) x d ∧ Q (.bl (g d)) H
theorem crIsa {T : String} {g : PyData → Bool} (h : IsaR X T g) : CallR X (.builtin "isinstance") (rIsa X.K T g) := by
  intro pins s σ H xs us Q I r ⟨x, d, e1, h1, q⟩
  subst e1
  cases r with
  | cons r1 r =>
    cases r with
    | cons r2 r =>
      cases r
      cases (show _ = Value.type T from r2)
      obtain ⟨as, rd⟩ := h1.reads I r1
      exact h s _ d as _ rd fun tk _ => ⟨.bl (g d), H, I.kept (t' := tk) (fun _ _ e => e), rfl, q⟩
def eIsa (g : PyData → Bool) (f : EF) : EF := fun ρ => PL.bz (f ρ) fun x => match dat x with
  | some d => some (.ok (.val true (.bool (g d))))
  | none => none
theorem pdIsa {T : String} {G : PyData → Bool} (hr : IsaR X T G) (he : PD X H0 W e f) (hm : X.mg "isinstance" = none) (hm2 : X.mg x = none) (hv2 : bootBuiltins x = some (.type T)) (hg : Gl X "isinstance" := by rfl) (hg2 : Gl X x := by rfl) (hn : x ≠ "__name__" := by decide) (hd : (x == ("__debug__" : Str)) = false := by decide)
    (hs : starEach [e, .Name x p2] X.env = (false, eval e X.env) :: starEach [.Name x p2] X.env := by rfl) (hs2 : starEach [.Name x p2] X.env = [(false, eval (.Name x p2) X.env)] := by rfl) : PD X H0 W (.Call (.Name "isinstance" p) [e, .Name x p2] [] pos) (eIsa G f) :=
  ⟨peWeak (pe_callB (crIsa hr) hg hm rfl (pa_cons he.z (pa_cons (pe_bltn (v := .ty T) hg2 hm2 hv2 rfl hn hd) pa_nil (by rw [hs2]; rfl)) hs) (he := hs) (hpl := by rw [hs2]; rfl)) fun σ H Q ⟨B, ρ, E, q⟩ => ⟨B, ρ, E, OK.bz q fun x v B1 H1 n1 r1 q1 => by
    split at q1
    · rename_i d hd
      refine ⟨v, d, rfl, r1.data n1.bh hd, ?_⟩
      rcases q1 with ⟨s, h1, h2⟩ | ⟨m, h1, h2⟩
      · cases h1; exact h2.bl n1.bh
      · cases h1
    · exact (okNone q1).elim⟩⟩

/-! ### sums and bounds of ints, any and all of bools -/
def intsD : List PyData → Option (List Int)
  | [] => some []
  | .int i :: ds => (intsD ds).map (i :: ·)
  | _ :: _ => none
def blsD : List PyData → Option (List Bool)
  | [] => some []
  | .bool i :: ds => (blsD ds).map (i :: ·)
  | _ :: _ => none
theorem intsD_map : ∀ ns : List Int, intsD (ns.map .int) = some ns
  | [] => rfl
  | n :: ns => by show (intsD (ns.map .int)).map _ = _; rw [intsD_map ns]; rfl
theorem blsD_map : ∀ ns : List Bool, blsD (ns.map .bool) = some ns
  | [] => rfl
  | n :: ns => by show (blsD (ns.map .bool)).map _ = _; rw [blsD_map ns]; rfl
theorem intsD_eq : ∀ {ds : List PyData} {ns : List Int}, intsD ds = some ns → ds = ns.map .int
  | [], ns, h => by cases h; rfl
  | d :: ds, ns, h => by
    cases d <;> first | cases h | skip
    unfold intsD at h
    cases q : intsD ds with
    | none => rw [q] at h; cases h
    | some ms => rw [q] at h; cases h; rw [intsD_eq q]; rfl
theorem blsD_eq : ∀ {ds : List PyData} {ns : List Bool}, blsD ds = some ns → ds = ns.map .bool
  | [], ns, h => by cases h; rfl
  | d :: ds, ns, h => by
    cases d <;> first | cases h | skip
    unfold blsD at h
    cases q : blsD ds with
    | none => rw [q] at h; cases h
    | some ms => rw [q] at h; cases h; rw [blsD_eq q]; rfl
def gSum (d : PyData) : Option PyData := match d with | .list ds => (intsD ds).map fun ns => .int ns.sum | _ => none
def gAny (d : PyData) : Option PyData := match d with | .list ds => (blsD ds).map fun ns => .bool (ns.any id) | _ => none
def gAll (d : PyData) : Option PyData := match d with | .list ds => (blsD ds).map fun ns => .bool (ns.all id) | _ => none
def lmax : List Int → Int
  | [] => 0
  | [n] => n
  | n :: ns => if n ≤ lmax ns then lmax ns else n
def lmin : List Int → Int
  | [] => 0
  | [n] => n
  | n :: ns => if lmin ns ≤ n then lmin ns else n
theorem lmax_mem : ∀ {ns : List Int}, ns ≠ [] → lmax ns ∈ ns ∧ ∀ y ∈ ns, y ≤ lmax ns
  | [], h => absurd rfl h
  | [n], _ => by simp [lmax]
  | n :: m :: ns, _ => by
    obtain ⟨h1, h2⟩ := lmax_mem (ns := m :: ns) (by simp)
    show (if n ≤ lmax (m :: ns) then lmax (m :: ns) else n) ∈ n :: m :: ns ∧ ∀ y ∈ n :: m :: ns, y ≤ if n ≤ lmax (m :: ns) then lmax (m :: ns) else n
    split
    · exact ⟨List.mem_cons_of_mem _ h1, fun y hy => by rcases List.mem_cons.mp hy with e | e; (· rw [e]; assumption); exact h2 y e⟩
    · exact ⟨List.mem_cons_self, fun y hy => by rcases List.mem_cons.mp hy with e | e; (· rw [e]; exact Int.le_refl _); have := h2 y e; omega⟩
theorem lmin_mem : ∀ {ns : List Int}, ns ≠ [] → lmin ns ∈ ns ∧ ∀ y ∈ ns, lmin ns ≤ y
  | [], h => absurd rfl h
  | [n], _ => by simp [lmin]
  | n :: m :: ns, _ => by
    obtain ⟨h1, h2⟩ := lmin_mem (ns := m :: ns) (by simp)
    show (if lmin (m :: ns) ≤ n then lmin (m :: ns) else n) ∈ n :: m :: ns ∧ ∀ y ∈ n :: m :: ns, (if lmin (m :: ns) ≤ n then lmin (m :: ns) else n) ≤ y
    split
    · exact ⟨List.mem_cons_of_mem _ h1, fun y hy => by rcases List.mem_cons.mp hy with e | e; (· rw [e]; assumption); exact h2 y e⟩
    · exact ⟨List.mem_cons_self, fun y hy => by rcases List.mem_cons.mp hy with e | e; (· rw [e]; exact Int.le_refl _); have := h2 y e; omega⟩
def neL (h : List Int → Int) : Option (List Int) → Option PyData
  | some (n :: ns) => some (.int (h (n :: ns)))
  | _ => none
def gMax (d : PyData) : Option PyData := match d with | .list ds => neL lmax (intsD ds) | _ => none
def gMin (d : PyData) : Option PyData := match d with | .list ds => neL lmin (intsD ds) | _ => none
theorem neL_ok {h : List Int → Int} {o : Option (List Int)} {y : PyData} (e : neL h o = some y) : ∃ n ns, o = some (n :: ns) ∧ y = .int (h (n :: ns)) := by
  unfold neL at e
  split at e
  · cases e; exact ⟨_, _, rfl, rfl⟩
  · cases e
theorem lst_ints {v : V} {ds : List PyData} {ns : List Int} (r : Rep (LH K H) v (.list ds)) (h : intsD ds = some ns) : ∃ a, v = .ref a ∧ SqL K H a (ns.map V.int) := by
  obtain ⟨a, vs, rfl, h1, h2⟩ := r.lstV
  rw [intsD_eq h] at h2
  have := h2.of_ints
  subst this
  exact ⟨a, rfl, h1⟩
theorem lst_bls {v : V} {ds : List PyData} {ns : List Bool} (r : Rep (LH K H) v (.list ds)) (h : blsD ds = some ns) : ∃ a, v = .ref a ∧ SqL K H a (ns.map V.bl) := by
  obtain ⟨a, vs, rfl, h1, h2⟩ := r.lstV
  rw [blsD_eq h] at h2
  have := h2.of_bls
  subst this
  exact ⟨a, rfl, h1⟩
theorem crSum (hc : X.calm = true) : CallR X (.builtin "sum") (rD1 X.K gSum) := cr1 (cr_sum hc) fun K H x d y Q e r h q => by
  subst e
  cases d <;> first | cases h | skip
  rename_i ds
  unfold gSum at h
  dsimp only at h
  cases hi : intsD ds with
  | none => rw [hi] at h; cases h
  | some ns =>
    rw [hi] at h; cases h
    obtain ⟨a, rfl, s⟩ := lst_ints r hi
    exact ⟨a, ns, rfl, s, q⟩
theorem crAny (hc : X.calm = true) : CallR X (.builtin "any") (rD1 X.K gAny) := cr1 (cr_any hc) fun K H x d y Q e r h q => by
  subst e
  cases d <;> first | cases h | skip
  rename_i ds
  unfold gAny at h
  dsimp only at h
  cases hi : blsD ds with
  | none => rw [hi] at h; cases h
  | some ns =>
    rw [hi] at h; cases h
    obtain ⟨a, rfl, s⟩ := lst_bls r hi
    exact ⟨a, ns, rfl, s, q⟩
theorem crAll (hc : X.calm = true) : CallR X (.builtin "all") (rD1 X.K gAll) := cr1 (cr_all hc) fun K H x d y Q e r h q => by
  subst e
  cases d <;> first | cases h | skip
  rename_i ds
  unfold gAll at h
  dsimp only at h
  cases hi : blsD ds with
  | none => rw [hi] at h; cases h
  | some ns =>
    rw [hi] at h; cases h
    obtain ⟨a, rfl, s⟩ := lst_bls r hi
    exact ⟨a, ns, rfl, s, q⟩
theorem crMax (hc : X.calm = true) : CallR X (.builtin "max") (rD1 X.K gMax) := cr1 (cr_max hc) fun K H x d y Q e r h q => by
  subst e
  cases d <;> first | cases h | skip
  rename_i ds
  obtain ⟨n, ns, hi, rfl⟩ := neL_ok (show neL lmax (intsD ds) = some y from h)
  · obtain ⟨a, rfl, s⟩ := lst_ints r hi
    obtain ⟨m1, m2⟩ := lmax_mem (ns := n :: ns) (by simp)
    refine ⟨a, _, rfl, s, by simp, fun m h1 h2 => ?_⟩
    have : m = lmax (n :: ns) := Int.le_antisymm (m2 m h1) (h2 _ m1)
    rw [this]; exact q
theorem crMin (hc : X.calm = true) : CallR X (.builtin "min") (rD1 X.K gMin) := cr1 (cr_min hc) fun K H x d y Q e r h q => by
  subst e
  cases d <;> first | cases h | skip
  rename_i ds
  obtain ⟨n, ns, hi, rfl⟩ := neL_ok (show neL lmin (intsD ds) = some y from h)
  · obtain ⟨a, rfl, s⟩ := lst_ints r hi
    obtain ⟨m1, m2⟩ := lmin_mem (ns := n :: ns) (by simp)
    refine ⟨a, _, rfl, s, by simp, fun m h1 h2 => ?_⟩
    have : m = lmin (n :: ns) := Int.le_antisymm (h2 _ m1) (m2 m h1)
    rw [this]; exact q
/-- two ints in, an int out -/
def rI2 (h : Int → Int → Int) : List V → Hp → VK → Prop := fun xs H Q => ∃ i j, xs = [.int i, .int j] ∧ Q (.int (h i j)) H
def fI2 (h : Int → Int → Int) (ss : List Sl) : Option Sl := match ss with
  | [x, y] => match dat x with
    | some (.int i) => match dat y with
      | some (.int j) => some (.val true (.int (h i j)))
      | _ => none
    | _ => none
  | _ => none
theorem cbI2 (h : Int → Int → Int) : CB X H0 (rI2 h) (fI2 h) := by
  intro B H ss vs s Q e0 eB r hf hq
  unfold fI2 at hf
  split at hf
  · rename_i x y
    cases r with
    | cons r1 r =>
      cases r with
      | cons r2 r =>
        cases r
        split at hf
        · rename_i i hi
          split at hf
          · rename_i j hj
            cases hf
            exact ⟨i, j, by rw [(r1.data eB hi).intV, (r2.data eB hj).intV], hq.int eB⟩
          · cases hf
        · cases hf
  · cases hf
def iMax (i j : Int) : Int := if j > i then j else i
def iMin (i j : Int) : Int := if j < i then j else i
theorem crMax2 (hc : X.calm = true) : CallR X (.builtin "max") (rI2 iMax) := call_max2 hc
theorem crMin2 (hc : X.calm = true) : CallR X (.builtin "min") (rI2 iMin) := call_min2 hc

/-! ### list, tuple, sorted -/
def rLs (K : PySem.W.Frag) : List V → Hp → VK → Prop := fun xs H Q => ∃ p ys, xs = [V.ref p] ∧ (SqL K H p ys ∨ SqT K H p ys) ∧ ∀ l, H l = none → Q (.ref l) (upd H l (.lst ys))
theorem crList : CallR X (.type "list") (rLs X.K) := call_list_of
def fLs (ss : List Sl) : Option Sl := match ss with
  | [x] => match lstD x with
    | some (fr, ds) => some (.own fr ds)
    | none => match tupD x with
      | some (fr, ds) => some (.own fr ds)
      | none => none
  | _ => none
theorem cbLs : CB X H0 (rLs X.K) fLs := by
  intro B H ss vs s Q e0 eB r hf hq
  unfold fLs at hf
  split at hf
  · rename_i x
    cases r with
    | cons r1 r =>
      cases r
      split at hf
      · rename_i fr ds hd
        cases hf
        obtain ⟨p, vs, rfl, s1, a1⟩ := r1.lst eB hd
        exact ⟨p, vs, rfl, .inl s1, fun l hl => hq.new eB a1 hl⟩
      · split at hf
        · rename_i fr ds hd
          cases hf
          obtain ⟨p, vs, rfl, s1, a1⟩ := r1.tup eB hd
          exact ⟨p, vs, rfl, .inr s1, fun l hl => hq.new eB a1 hl⟩
        · cases hf
  · cases hf
def rTl (K : PySem.W.Frag) : List V → Hp → VK → Prop := fun xs H Q => ∃ p ys, xs = [V.ref p] ∧ ((SqL K H p ys ∧ ∀ l, H l = none → Q (.ref l) (upd H l (.tup ys))) ∨ (SqT K H p ys ∧ Q (.ref p) H))
theorem crTuple : CallR X (.type "tuple") (rTl X.K) := call_tuple_of
def fTl (ss : List Sl) : Option Sl := match ss with
  | [x] => match lstD x with
    | some (fr, ds) => some (.val fr (.tuple ds))
    | none => match x with
      | .val fr (.tuple ds) => some (.val fr (.tuple ds))
      | _ => none
  | _ => none
theorem cbTl : CB X H0 (rTl X.K) fTl := by
  intro B H ss vs s Q e0 eB r hf hq
  unfold fTl at hf
  split at hf
  · rename_i x
    cases r with
    | cons r1 r =>
      cases r
      split at hf
      · rename_i fr ds hd
        cases hf
        obtain ⟨p, vs, rfl, s1, a1⟩ := r1.lst eB hd
        exact ⟨p, vs, rfl, .inl ⟨s1, fun l hl => hq.tup e0 eB a1 hl⟩⟩
      · split at hf
        · rename_i fr ds _
          cases hf
          have rr : Rep (LF X.K H0 B fr) _ (.tuple ds) := r1
          have rv := Rep.mono (LF.toH eB) rr
          obtain ⟨p, vs, rfl, s1, a1⟩ := rv.tupV
          exact ⟨p, vs, rfl, .inr ⟨s1, hq.same eB rr⟩⟩
        · cases hf
  · cases hf
def allAlike (ds : List PyData) : Bool := ds.all fun d => ds.all fun e => PySem.W.alike d e
def isT : PyData → Bool
  | .tuple (_ :: _) => true
  | _ => false
def isO : PyData → Bool
  | .none => false
  | .tuple _ => false
  | _ => true
theorem isT_ok : ∀ {d : PyData}, isT d = true → ∃ x r, d = .tuple (x :: r)
  | .tuple (x :: r), _ => ⟨x, r, rfl⟩
theorem isO_ok : ∀ {d : PyData}, isO d = true → d ≠ .none ∧ ∀ xs, d ≠ .tuple xs
  | .bool _, _ => ⟨by simp, by simp⟩
  | .int _, _ => ⟨by simp, by simp⟩
  | .str _, _ => ⟨by simp, by simp⟩
  | .list _, _ => ⟨by simp, by simp⟩
  | .dict _, _ => ⟨by simp, by simp⟩
def gSorted (ds : List PyData) : Option (List PyData) :=
  if allAlike ds = true ∧ (ds.all isT = true ∨ ds.all isO = true) ∧ ds.length ≤ 16777216 ∧ ds.all (fun d => decide (d.depth ≤ 50)) = true then some (ds.mergeSort (PySem.W.dataLe false id)) else none
def rSortD (K : PySem.W.Frag) : List V → Hp → VK → Prop := fun xs H Q => ∃ p vs ds ds', xs = [V.ref p] ∧ SqL K H p vs ∧ RepAll (LH K H) vs ds ∧ gSorted ds = some ds' ∧
  ∀ (zs : List (V × PyData)) (l : Addr), zs.Perm (vs.zip ds) → zs.map (·.2) = ds' → H l = none → Q (.ref l) (upd H l (.lst (zs.map (·.1))))
theorem zip_each {L : Addr → HO → Prop} : ∀ {vs : List V} {us : List Value} {ds : List PyData}, Vals vs us → RepAll L vs ds → PySem.W.EachIs (fun (u : Value) (b : V × PyData) => RelV b.1 u) us (vs.zip ds)
  | _, _, _, .nil, .nil => .nil
  | _, _, _, .cons h t, .cons _ rs => .cons h (zip_each t rs)
theorem zip_reads {pins : List (Addr × Obj)} {s : Shared} (I : Inv X pins σ H s) : ∀ {vs : List V} {us : List Value} {ds : List PyData}, Vals vs us → RepAll (LH X.K H) vs ds → PySem.W.EachIs (fun (u : Value) (b : V × PyData) => ∃ as, Reads s.heap u b.2 as) us (vs.zip ds)
  | _, _, _, .nil, .nil => .nil
  | _, _, _, .cons h t, .cons r rs => .cons (r.reads I h) (zip_reads I t rs)
theorem each_vals : ∀ {us : List Value} {zs : List (V × PyData)}, PySem.W.EachIs (fun (u : Value) (b : V × PyData) => RelV b.1 u) us zs → Vals (zs.map (·.1)) us
  | _, _, .nil => .nil
  | _, _, .cons h t => .cons h (each_vals t)
theorem RepAll.zip {L : Addr → HO → Prop} : ∀ {vs : List V} {ds : List PyData}, RepAll L vs ds → (∀ z ∈ vs.zip ds, Rep L z.1 z.2) ∧ (vs.zip ds).map (·.2) = ds
  | _, _, .nil => ⟨by simp, rfl⟩
  | _, _, .cons r rs => by
    obtain ⟨h1, h2⟩ := RepAll.zip rs
    refine ⟨fun z hz => ?_, ?_⟩
    · rw [List.zip_cons_cons] at hz
      rcases List.mem_cons.mp hz with e | e
      · subst e; exact r
      · exact h1 z e
    · rw [List.zip_cons_cons, List.map_cons, h2]
theorem RepAll.unzip {L : Addr → HO → Prop} : ∀ {zs : List (V × PyData)}, (∀ z ∈ zs, Rep L z.1 z.2) → RepAll L (zs.map (·.1)) (zs.map (·.2))
  | [], _ => .nil
  | z :: zs, h => .cons (h z List.mem_cons_self) (RepAll.unzip fun y hy => h y (List.mem_cons_of_mem _ hy))
theorem sort_map_snd (zs : List (V × PyData)) : (zs.mergeSort (PySem.W.dataLe false fun z : V × PyData => z.2)).map (·.2) = (zs.map (·.2)).mergeSort (PySem.W.dataLe false id) :=
  PySem.W.sort_maps (s := PySem.W.dataLe false id) (fun z : V × PyData => z.2) (fun _ _ _ _ => rfl)
theorem crSorted {kk : Nat} (hr : Room kk X.A) : CallR X (.builtin "sorted") (rSortD X.K) := by
  intro pins s σ H xs us Q I r h
  obtain ⟨a, vs, ds, ds', rfl, hs, ra, hg, q⟩ := h
  obtain ⟨its, rv, hl, hz⟩ := I.list hs
  rw [Vals.ref1 r]
  unfold gSorted at hg
  split at hg
  · rename_i hc
    cases hg
    obtain ⟨c1, c2, c3, c4⟩ := hc
    have hmap := (RepAll.zip ra).2
    have mz : ∀ z ∈ vs.zip ds, z.2 ∈ ds := fun z hz => by rw [← hmap]; exact List.mem_map.mpr ⟨z, hz, rfl⟩
    have len : (vs.zip ds).length = ds.length := by rw [← congrArg List.length hmap, List.length_map]
    refine PySem.W.sorted_data (β := V × PyData) (enc := fun z => z.2) hl.isList (zip_each rv ra) (zip_reads I rv ra) ?_ ?_ (by rw [len, sizeLine_eq]; exact c3) (fun b hb => ?_) fun out ho eo => ?_
    · rw [hmap]
      intro d hd d' hd'
      exact List.all_eq_true.mp (List.all_eq_true.mp c1 d hd) d' hd'
    · rw [hmap]
      rcases c2 with c2 | c2
      · refine .inl fun d hd => ?_
        exact isT_ok (List.all_eq_true.mp c2 d hd)
      · refine .inr fun d hd => ?_
        exact isO_ok (List.all_eq_true.mp c2 d hd)
    · have := hr.units
      have := of_decide_eq_true (List.all_eq_true.mp c4 b.2 (mz b hb))
      omega
    · obtain ⟨ep, he'⟩ := PyProof.Rows.sortedAll_at s.heap its out.toArray
      have hout := each_vals eo
      have hlen : ((vs.zip ds).mergeSort (PySem.W.dataLe false fun z : V × PyData => z.2)).length = ds.length := by rw [List.length_mergeSort, len]
      exact ⟨.ref _, _, I.laid (t' := s.toks) (fun _ _ => PyProof.Rows.sortedAll_old) (Nat.le_succ _) (show ObjOk X.prog X.w _ _ _ (.lst _) from ⟨by rw [List.length_map, hlen, sizeLine_eq]; exact c3, _, ep, hout, he'⟩), rfl,
        q _ _ (List.mergeSort_perm _ _) (by rw [sort_map_snd, hmap]) (I.hok.fresh (Nat.le_succ _))⟩
  · cases hg
def fSorted (ss : List Sl) : Option Sl := match ss with
  | [x] => match lstD x with
    | some (fr, ds) => (gSorted ds).map fun ds' => .own fr ds'
    | none => none
  | _ => none
theorem cbSorted : CB X H0 (rSortD X.K) fSorted := by
  intro B H ss vs s Q e0 eB r hf hq
  unfold fSorted at hf
  split at hf
  · rename_i x
    cases r with
    | cons r1 r =>
      cases r
      split at hf
      · rename_i fr ds hd
        cases hg : gSorted ds with
        | none => rw [hg] at hf; cases hf
        | some ds' =>
          rw [hg] at hf
          cases hf
          obtain ⟨p, vs, rfl, s1, a1⟩ := r1.lst eB hd
          refine ⟨p, vs, ds, ds', rfl, s1, a1.mono (LF.toH eB), hg, fun zs l hp hm hl => ?_⟩
          have hz := (RepAll.zip a1).1
          have := RepAll.unzip (zs := zs) fun z h => hz z (hp.mem_iff.mp h)
          rw [hm] at this
          exact hq.new eB this hl
      · cases hf
  · cases hf
end
end PL

/-! PL9: what a generated walk leans on: defs by their names, ghost steps, globals. -/
namespace PL
open PySem PySem.Spec PyProof.Rows L2

structure Has (P : Program) (w : World) (K : PySem.W.Frag) (mg : Str → Option Value) (base : Heap) (k : Nat) (x : Str) (ps : List Str) (F : FN) : Prop where
  ex : ∃ f fd, FG P w K mg base k f fd ps (spD K mg ps.length F) ∧ mg x = some (.ref f) ∧ PySem.W.keepIn K (.ref f) = true ∧ Binds K fd ps []
section
variable {X : Cx} {H0 : En} {W : WX} {e a b c : Expr} {es : List Expr} {f g : EF} {fs : List EF} {pos p : Pos} {j k n : Nat} {x : Str} {ps : List Str} {F : FN} {st : Stmt} {qual : Str} {fa : Addr} {fd : FuncData} {P : Program} {w : World} {K : PySem.W.Frag} {mg : Str → Option Value} {base : Heap}
theorem Has.mk' (Fn : Fun K x qual st fa fd) (hm : mg x = some (.ref fa)) (hb : Binds K fd ps []) (h : FG P w K mg base k fa fd ps (spD K mg ps.length F)) : Has P w K mg base k x ps F := ⟨fa, fd, h, hm, Fn.kp, hb⟩
theorem pdCallH (h : Has X.prog X.w X.K X.mg X.base j x ps F) (hr : Room k X.A) (hgd : X.A.guards = some []) (tk : Takes X W) (ha : PDs X H0 W (e :: es) fs) (hj : j ≤ k := by decide) (hn : fs.length = ps.length := by rfl) (hg : Gl X x := by rfl)
    (hdb : (x == ("__debug__" : Str)) = false := by decide) (he : starEach (e :: es) X.env = (false, eval e X.env) :: starEach es X.env := by rfl) (hpl : (backTo pos (starEach es X.env)).any (·.1) = false := by rfl) :
    PD X H0 W (.Call (.Name x p) (e :: es) [] pos) (eCall F fs) := by
  obtain ⟨f, fd, h1, h2, h3, h4⟩ := h.ex
  exact pdCall h1 (hr.mono hj) hgd h2 h3 h4 tk ha hn hg hdb he hpl
theorem pdCallH0 (h : Has X.prog X.w X.K X.mg X.base j x [] F) (hr : Room k X.A) (hgd : X.A.guards = some []) (tk : Takes X W) (hj : j ≤ k := by decide) (hg : Gl X x := by rfl) (hdb : (x == ("__debug__" : Str)) = false := by decide) : PD X H0 W (.Call (.Name x p) [] [] pos) (eCall F []) := by
  obtain ⟨f, fd, h1, h2, h3, h4⟩ := h.ex
  exact pdCall0 h1 (hr.mono hj) hgd h2 h3 h4 tk hg hdb
theorem takes0 : Takes X W0 := fun _ _ ⟨_, _, _, _, _, _, _, _, _, _, _, _, _, _, _, _, w⟩ => w.elim
/-- a built-in of one datum -/
theorem pdB1 {id : String} {G : PyData → Option PyData} (hc : CallR X (.builtin id) (rD1 X.K G)) (hm : X.mg x = none) (hv : bootBuiltins x = some (.builtin id)) (ha : PD X H0 W e f) (hg : Gl X x := by rfl) (hn : x ≠ "__name__" := by decide) (hdb : (x == ("__debug__" : Str)) = false := by decide)
    (he : starEach [e] X.env = [(false, eval e X.env)] := by rfl) : PD X H0 W (.Call (.Name x p) [e] [] pos) (eCB (fD1 G) [f]) :=
  pdCB (pdsCons ha pdsNil (by rw [he]; rfl)) (cbD1 G) fun h => pe_callB hc hg hm hv h hn hdb (by rw [he]; rfl) (by rfl)
theorem pdB2 {id : String} {h : Int → Int → Int} (hc : CallR X (.builtin id) (rI2 h)) (hm : X.mg x = none) (hv : bootBuiltins x = some (.builtin id)) (ha : PD X H0 W a f) (hb : PD X H0 W b g) (hg : Gl X x := by rfl) (hn : x ≠ "__name__" := by decide) (hdb : (x == ("__debug__" : Str)) = false := by decide)
    (he : starEach [a, b] X.env = [(false, eval a X.env), (false, eval b X.env)] := by rfl) (he2 : starEach [b] X.env = [(false, eval b X.env)] := by rfl) : PD X H0 W (.Call (.Name x p) [a, b] [] pos) (eCB (fI2 h) [f, g]) :=
  pdCB (pdsCons ha (pdsCons hb pdsNil (by rw [he2]; rfl)) (by rw [he, he2])) (cbI2 h) fun h => pe_callB hc hg hm hv h hn hdb (by rw [he, he2]) (by rw [he2]; rfl)
theorem pdTy1 {T : String} {G : PyData → Option PyData} (hc : CallR X (.type T) (rD1 X.K G)) (hm : X.mg x = none) (hv : bootBuiltins x = some (.type T)) (ha : PD X H0 W e f) (hg : Gl X x := by rfl) (hn : x ≠ "__name__" := by decide) (hdb : (x == ("__debug__" : Str)) = false := by decide)
    (he : starEach [e] X.env = [(false, eval e X.env)] := by rfl) : PD X H0 W (.Call (.Name x p) [e] [] pos) (eCB (fD1 G) [f]) :=
  pdCB (pdsCons ha pdsNil (by rw [he]; rfl)) (cbD1 G) fun h => pe_callTy hc hg hm hv h hn hdb (by rw [he]; rfl) (by rfl)
theorem pdTyL {T : String} {r : List V → Hp → VK → Prop} {G : List Sl → Option Sl} (hc : CallR X (.type T) r) (hcb : CB X H0 r G) (hm : X.mg x = none) (hv : bootBuiltins x = some (.type T)) (ha : PD X H0 W e f) (hg : Gl X x := by rfl) (hn : x ≠ "__name__" := by decide) (hdb : (x == ("__debug__" : Str)) = false := by decide)
    (he : starEach [e] X.env = [(false, eval e X.env)] := by rfl) : PD X H0 W (.Call (.Name x p) [e] [] pos) (eCB G [f]) :=
  pdCB (pdsCons ha pdsNil (by rw [he]; rfl)) hcb fun h => pe_callTy hc hg hm hv h hn hdb (by rw [he]; rfl) (by rfl)
theorem pdBL {id : String} {r : List V → Hp → VK → Prop} {G : List Sl → Option Sl} (hc : CallR X (.builtin id) r) (hcb : CB X H0 r G) (hm : X.mg x = none) (hv : bootBuiltins x = some (.builtin id)) (ha : PD X H0 W e f) (hg : Gl X x := by rfl) (hn : x ≠ "__name__" := by decide) (hdb : (x == ("__debug__" : Str)) = false := by decide)
    (he : starEach [e] X.env = [(false, eval e X.env)] := by rfl) : PD X H0 W (.Call (.Name x p) [e] [] pos) (eCB G [f]) :=
  pdCB (pdsCons ha pdsNil (by rw [he]; rfl)) hcb fun h => pe_callB hc hg hm hv h hn hdb (by rw [he]; rfl) (by rfl)

/-! ### an owned datum, seen as an own list -/
end

mutual
theorem Rep.avoid {N : Hp} {p : Addr} {u : List PyData} (hp : ∀ vs, N p = some (.lst vs) → RepAll (LN N) vs u) (hp2 : ∃ vs, N p = some (.lst vs)) : ∀ {v : V} {d : PyData}, Rep (LN N) v d → sizeOf d ≤ sizeOf u → Rep (LN fun a => if a = p then none else N a) v d
  | _, _, .non, _ => .non
  | _, _, .bl b, _ => .bl b
  | _, _, .int i, _ => .int i
  | _, _, .str x, _ => .str x
  | _, _, .lst (a := a) (xs := xs) (ds := ds) e r, h => by
    have hd : sizeOf ds < sizeOf (PyData.list ds) := by simp
    have hne : a ≠ p := fun z => by
      subst z
      have r1 := hp xs e
      have := RepAll.det r r1
      subst this
      omega
    exact .lst (show (if a = p then none else N a) = _ by rw [if_neg hne]; exact e) (RepAll.avoid hp hp2 r (by omega))
  | _, _, .tup (a := a) (xs := xs) (ds := ds) e r, h => by
    have hd : sizeOf ds < sizeOf (PyData.tuple ds) := by simp
    have hne : a ≠ p := fun z => by
      subst z
      obtain ⟨vs, h2⟩ := hp2
      have e' : N a = _ := e
      rw [h2] at e'
      cases e'
    exact .tup (show (if a = p then none else N a) = _ by rw [if_neg hne]; exact e) (RepAll.avoid hp hp2 r (by omega))
theorem RepAll.avoid {N : Hp} {p : Addr} {u : List PyData} (hp : ∀ vs, N p = some (.lst vs) → RepAll (LN N) vs u) (hp2 : ∃ vs, N p = some (.lst vs)) : ∀ {vs : List V} {ds : List PyData}, RepAll (LN N) vs ds → sizeOf ds ≤ sizeOf u → RepAll (LN fun a => if a = p then none else N a) vs ds
  | _, _, .nil, _ => .nil
  | _, _, .cons r rs, h => by
    simp only [List.cons.sizeOf_spec] at h
    exact .cons (Rep.avoid hp hp2 r (by omega)) (RepAll.avoid hp hp2 rs (by omega))
theorem Rep.det {N : Hp} : ∀ {v : V} {d d' : PyData}, Rep (LN N) v d → Rep (LN N) v d' → d = d'
  | _, _, _, .non, r' => by cases r'; rfl
  | _, _, _, .bl b, r' => by cases r'; rfl
  | _, _, _, .int i, r' => by cases r'; rfl
  | _, _, _, .str x, r' => by cases r'; rfl
  | _, _, _, .lst e r, r' => by
    cases r' with
    | lst e' r' =>
      have : some _ = some _ := (show N _ = _ from e).symm.trans e'
      cases this
      rw [RepAll.det r r']
    | tup e' r' =>
      have : some _ = some _ := (show N _ = _ from e).symm.trans e'
      cases this
  | _, _, _, .tup e r, r' => by
    cases r' with
    | tup e' r' =>
      have : some _ = some _ := (show N _ = _ from e).symm.trans e'
      cases this
      rw [RepAll.det r r']
    | lst e' r' =>
      have : some _ = some _ := (show N _ = _ from e).symm.trans e'
      cases this
theorem RepAll.det {N : Hp} : ∀ {vs : List V} {ds ds' : List PyData}, RepAll (LN N) vs ds → RepAll (LN N) vs ds' → ds = ds'
  | _, _, _, .nil, r' => by cases r'; rfl
  | _, _, _, .cons r rs, r' => by
    cases r' with
    | cons r' rs' => rw [Rep.det r r', RepAll.det rs rs']
end
section
variable {X : Cx} {H0 : En} {W : WX} {K : PySem.W.Frag} {B H : Hp} {σ : L2.St} {ρ : Ev} {sts : List Stmt} {F : SF}
/-- an owned list becomes an own list of frozen items -/
def gOwn (i : Nat) (ρ : Ev) : Option Ev := match ρ[i]? with
  | some (.full (.list ds)) => some (ρ.set i (.own true ds))
  | some _ => some ρ
  | none => none
theorem own_ok {i : Nat} {ρ' : Ev} (E : ER K H0 B H σ ρ) (h : gOwn i ρ = some ρ') : ∃ B', ER K H0 B' H σ ρ' ∧ Same B B' := by
  unfold gOwn at h
  split at h
  · rename_i ds hs
    cases h
    obtain ⟨F, f1, f2, f3, f4⟩ := E.ex
    have hi : i < ρ.length := (List.getElem?_eq_some_iff.mp hs).1
    obtain ⟨v, e1, r1⟩ := f4 i _ hs
    obtain ⟨p, vs, rfl, h1, h2⟩ := Rep.lstV r1
    have hp' : F i p = some (.lst vs) := h1
    have g : ∀ a o, F i a = some o → B a = none ∧ H0.H a = none := fun a o q => f2 i a (by rw [q]; simp)
    let T : Hp := fun a => if a = p then none else F i a
    have hT : ∀ a o, T a = some o → a ≠ p ∧ F i a = some o := fun a o q => by
      by_cases ha : a = p
      · have q' : (if a = p then none else F i a) = some o := q
        rw [if_pos ha] at q'; cases q'
      · have q' : (if a = p then none else F i a) = some o := q
        rw [if_neg ha] at q'; exact ⟨ha, q'⟩
    have items : RepAll (LN T) vs ds := RepAll.avoid (p := p) (u := ds) (fun ws hw => by rw [hp'] at hw; cases hw; exact h2) ⟨vs, hp'⟩ h2 (Nat.le_refl _)
    have sB : Same B (un B T) := fun a o q => by unfold un; rw [q]
    have sT : Same T (un B T) := fun a o q => by unfold un; rw [(g a o (hT a o q).2).1]; exact q
    refine ⟨un B T, ⟨E.e0, E.b0.trans sB, fun a h1 h2 => ?_, fun a o q => ?_, by rw [List.length_set]; exact E.len, fun j => if j = i then (fun a => if a = p then some (.lst vs) else none) else F j, ⟨fun j => ?_, fun j a h => ?_, fun j k a hjk h => ?_, fun j u hu => ?_⟩⟩, sB⟩
    · unfold un
      rw [E.n0 a h1 h2]
      cases z : T a with
      | none => rfl
      | some o => exact absurd (g a o (hT a o z).2).2 h1
    · unfold un at q
      cases z : B a with
      | some u => rw [z] at q; cases q; exact E.eB _ _ z
      | none => rw [z] at q; exact f1 i _ _ (hT _ _ q).2
    · dsimp only
      split
      · intro a o q
        dsimp only at q
        split at q
        · rename_i z; subst z; cases q; exact f1 i _ _ hp'
        · cases q
      · exact f1 j
    · dsimp only at h
      split at h
      · have ha : a = p := by
          by_cases z : a = p
          · exact z
          · exact absurd (show (if a = p then some (HO.lst vs) else none) = none by rw [if_neg z]) h
        subst ha
        refine ⟨?_, (g _ _ hp').2⟩
        unfold un
        rw [(g _ _ hp').1]
        show (if a = a then none else F i a) = none
        rw [if_pos rfl]
      · rename_i hji
        refine ⟨?_, (f2 j a h).2⟩
        unfold un
        rw [(f2 j a h).1]
        cases z : T a with
        | none => rfl
        | some o => exact absurd ((hT a o z).2) (by rw [f3 j i a hji h]; simp)
    · dsimp only at h ⊢
      split at h
      · rename_i hji
        rw [if_neg (by omega)]
        have ha : a = p := by
          by_cases z : a = p
          · exact z
          · exact absurd (show (if a = p then some (HO.lst vs) else none) = none by rw [if_neg z]) h
        subst ha
        exact f3 i k a (by omega) (by rw [hp']; simp)
      · rename_i hji
        split
        · rename_i hki
          by_cases z : a = p
          · subst z
            have := f3 j i a hji h
            rw [hp'] at this; cases this
          · exact (show (if a = p then some (HO.lst vs) else none) = none by rw [if_neg z])
        · exact f3 j k a hjk h
    · dsimp only
      by_cases hj : j = i
      · subst hj
        rw [List.getElem?_set_self hi] at hu
        have hu' := Option.some.inj hu
        subst hu'
        rw [if_pos rfl]
        exact ⟨p, vs, e1, if_pos rfl, items.mono fun a o q => nw_of (g a o (hT a o q).2).2 (sT a o q)⟩
      · rw [List.getElem?_set_ne (Ne.symm hj)] at hu
        rw [if_neg hj]
        exact (f4 j u hu).mono sB
  · cases h; exact ⟨B, E, Same.refl _⟩
  · cases h
def gh (g : Ev → Option Ev) (F : SF) : SF := fun ρ => match g ρ with | some ρ' => F ρ' | none => none
theorem psdsOwn {i : Nat} (h : PSDs X H0 W sts F) : PSDs X H0 W sts (gh (gOwn i) F) := psdsGhost (gOwn i) (fun B H σ ρ ρ' E q => own_ok E q) h
theorem psdsFr {i : Nat} (h : PSDs X H0 W sts F) : PSDs X H0 W sts (gh (gFrz i) F) := psdsGhost (gFrz i) (fun B H σ ρ ρ' E q => frz_ok E q) h
def big : Ev → Nat := fun _ => 1000000000000000000
end
end PL

/-! PL10: more that is walked: ranges with a step, enumerate, zip, reversed, tuples. -/
namespace PL
open PySem PySem.Spec PyProof.Rows L2

section
variable {X : Cx} {H0 : En} {W : WX} {e a b c tg : Expr} {es : List Expr} {f g k : EF} {fs : List EF} {pos p : Pos} {K : PySem.W.Frag} {B H B' H' : Hp} {σ : L2.St} {mg : Str → Option Value} {ρ : Ev}
/-! ### lo, lo + c, .. -/
def rngC (lo c : Int) (n : Nat) : List Sl := (List.range n).map fun (i : Nat) => .val true (.int (lo + (i : Int) * c))
theorem itc_ok (lo c : Int) (n : Nat) : ItOk K H0 B (Itc lo c n) (rngC lo c n) where
  go := fun i B' H' h1 h2 h => by unfold rngC at h; rw [List.length_map, List.length_range] at h; exact h
  yld := fun i B' H' x H'' s h1 h2 h3 hu hy => by
    obtain ⟨rfl, rfl⟩ := hy
    obtain ⟨j, hj, rfl⟩ := map_at hu
    have : j = i := by
      obtain ⟨h, e⟩ := List.getElem?_eq_some_iff.mp hj
      rw [List.getElem_range] at e; exact e.symm
    subst this
    exact ⟨B', Nx.refl h2, .int _⟩
  stop := fun i B' H' h1 h2 h => by unfold rngC at h; rw [List.length_map, List.length_range] at h; exact h
def rN (i j c : Int) : Nat := (Builtin.Range.rangeSize i j c).toNat
theorem rs_nonneg (i j c : Int) : 0 ≤ Builtin.Range.rangeSize i j c := by
  unfold Builtin.Range.rangeSize
  split
  · split
    · have := Int.ediv_nonneg (a := j - i - 1) (b := c) (by omega) (by omega); omega
    · exact Int.le_refl _
  · split
    · have := Int.ediv_nonneg (a := i - j - 1) (b := -c) (by omega) (by omega); omega
    · exact Int.le_refl _
noncomputable def iR3 (fs : List EF) : IF := fun ρ => match evs fs ρ with
  | some (.ok ss) => match ss.map dat with
    | [some (.int i), some (.int j), some (.int c)] => if cd (c ≠ 0 ∧ c.natAbs < 1073741824 ∧ Builtin.Range.small i j c = true) = true then some (.ok (rngC i c (rN i j c))) else none
    | _ => none
  | some (.ex n) => some (.ex n)
  | none => none
theorem rzs_dat : ∀ {vs : List V} {ss : List Sl} {ns : List Int}, Same B H → RZs K H0 B H vs ss → ss.map dat = ns.map (fun n => some (.int n)) → vs = ns.map V.int
  | _, _, [], _, .nil, _ => rfl
  | _, _, _ :: _, _, .nil, h => by simp at h
  | _, _, [], _, .cons _ _, h => by simp at h
  | _, _, n :: ns, eB, .cons r rs, h => by
    simp only [List.map_cons, List.cons.injEq] at h
    rw [(r.data eB h.1).intV, rzs_dat eB rs h.2]; rfl
theorem pidR3 (hm : X.mg "range" = none) (ha : PDs X H0 W [a, b, c] fs) (hg : Gl X "range" := by rfl) (hs : starEach [a, b, c] X.env = [(false, eval a X.env), (false, eval b X.env), (false, eval c X.env)] := by rfl) (hs2 : starEach [b, c] X.env = [(false, eval b X.env), (false, eval c X.env)] := by rfl) : PID X H0 W tg (.Call (.Name "range" p) [a, b, c] [] pos) (iR3 fs) := ⟨piWeak (pi_range3 hg hm ha.pa (by rw [hs, hs2]) (by rw [hs2]; rfl)) fun σ H R ⟨B, ρ, E, q⟩ => ⟨B, ρ, E, by
  unfold iR3 at q
  cases r : evs fs ρ with
  | none => rw [r] at q; rcases q with ⟨s, h1, h2⟩ | ⟨m, h1, h2⟩ <;> cases h1
  | some o =>
    rw [r] at q
    cases o with
    | ex n =>
      rcases q with ⟨s, h1, h2⟩ | ⟨m, h1, h2⟩
      · cases h1
      · cases h1; exact .inr ⟨n, rfl, h2⟩
    | ok ss =>
      refine .inl ⟨ss, rfl, fun vs B1 H1 n1 rs => ?_⟩
      dsimp only at q
      split at q
      · rename_i i j c hj
        split at q
        · rename_i hs
          have hs := of_cd hs
          rcases q with ⟨its, h1, h2⟩ | ⟨m, h1, h2⟩
          · cases h1
            have ev := rzs_dat (ns := [i, j, c]) n1.bh rs hj
            refine ⟨i, j, c, rN i j c, ev, ⟨hs.1, hs.2.1, hs.2.2, ?_⟩, h2 _ B1 H1 n1 (itc_ok i c _)⟩
            have := rs_nonneg i j c
            unfold rN
            omega
          · cases h1
        · rcases q with ⟨s, h1, h2⟩ | ⟨m, h1, h2⟩ <;> cases h1
      · rcases q with ⟨s, h1, h2⟩ | ⟨m, h1, h2⟩ <;> cases h1⟩⟩

/-! ### one operand -/
def iM (mk : Sl → Option (List Sl)) (f : EF) : IF := fun ρ => match f ρ with
  | some (.ok s) => match mk (frz s) with
    | some its => some (.ok its)
    | none => none
  | some (.ex n) => some (.ex n)
  | none => none
def OKI (K : PySem.W.Frag) (mg : Str → Option Value) (H0 : En) (W : WX) (B H : Hp) (σ : L2.St) (o : Option Ri) (R : It → Hp → Prop) : Prop :=
  (∃ its, o = some (.ok its) ∧ ∀ J B' H', Nx B H B' H' → ItOk K H0 B' J its → R J H') ∨ ∃ n, o = some (.ex n) ∧ KX mg B H σ W n
theorem im_ok {mk : Sl → Option (List Sl)} {R : It → Hp → Prop} {Z : VK} (q : OKI K mg H0 W B H σ (iM mk f ρ) R)
    (c : ∀ s its v B' H', Nx B H B' H' → RZ K H0 B' H' v s → mk s = some its → (∀ J, ItOk K H0 B' J its → R J H') → Z v H') : OKZ K mg H0 W B H σ (f ρ) Z := by
  unfold iM at q
  cases r : f ρ with
  | none => rw [r] at q; rcases q with ⟨s, h1, h2⟩ | ⟨m, h1, h2⟩ <;> cases h1
  | some o =>
    rw [r] at q
    cases o with
    | ex n =>
      rcases q with ⟨s, h1, h2⟩ | ⟨m, h1, h2⟩
      · cases h1
      · cases h1; exact .inr ⟨n, rfl, h2⟩
    | ok s =>
      refine .inl ⟨s, rfl, fun v B1 H1 n1 r1 => ?_⟩
      dsimp only at q
      cases hz : mk (frz s) with
      | none => rw [hz] at q; rcases q with ⟨s, h1, h2⟩ | ⟨m, h1, h2⟩ <;> cases h1
      | some its =>
        rw [hz] at q
        rcases q with ⟨its', h1, h2⟩ | ⟨m, h1, h2⟩
        · cases h1
          exact c (frz s) its v B1 H1 n1 r1 hz fun J hJ => h2 J B1 H1 n1 hJ
        · cases h1
/-- a tuple is yielded -/
theorem yld_tup {fr : Bool} {ds : List PyData} {vs : List V} {T : Addr} (e0 : Same H0.H H) (e : Same B H) (r : RepAll (LF K H0 B fr) vs ds) (hT : H T = none) : ∃ B'', Nx B H B'' (upd H T (.tup vs)) ∧ RZ K H0 B'' (upd H T (.tup vs)) (.ref T) (.val fr (.tuple ds)) :=
  KQ.tup (Q := fun v H' => ∃ B'', Nx B H B'' H' ∧ RZ K H0 B'' H' v (.val fr (.tuple ds))) (fun v B2 H2 T n t r => ⟨B2, n, r⟩) e0 e r hT
/-- enumerate -/
def enI (fr : Bool) : Nat → List PyData → List Sl
  | _, [] => []
  | k, d :: ds => .val fr (.tuple [.int k, d]) :: enI fr (k + 1) ds
theorem enI_len (fr : Bool) : ∀ (k : Nat) (ds : List PyData), (enI fr k ds).length = ds.length
  | _, [] => rfl
  | k, _ :: ds => congrArg (· + 1) (enI_len fr (k + 1) ds)
theorem enI_at {fr : Bool} : ∀ {ds : List PyData} {k i : Nat} {s : Sl}, (enI fr k ds)[i]? = some s → ∃ d, ds[i]? = some d ∧ s = .val fr (.tuple [.int ((k + i : Nat) : Int), d])
  | [], _, _, _, h => by simp [enI] at h
  | d :: ds, k, 0, s, h => by
    have h' : some (Sl.val fr (.tuple [.int k, d])) = some s := h
    exact ⟨d, rfl, (Option.some.inj h').symm⟩
  | d :: ds, k, i + 1, s, h => by
    obtain ⟨d', h1, h2⟩ := enI_at (k := k + 1) (i := i) (show (enI fr (k + 1) ds)[i]? = some s from h)
    exact ⟨d', h1, by rw [h2]; congr 4; omega⟩
def mkEn : Sl → Option (List Sl)
  | .val fr (.list ds) => some (enI fr 0 ds)
  | _ => none
theorem ite_ok {fr : Bool} {p : Addr} {vs : List V} {ds : List PyData} (s : SqL K B p vs) (r : RepAll (LF K H0 B fr) vs ds) : ItOk K H0 B (Ite K p) (enI fr 0 ds) where
  go := fun i B' H' h1 h2 hi => by
    rw [enI_len, ← r.length] at hi
    exact ⟨vs, vs[i], Same.seq h2 (Same.seq h1 s), by simp [hi]⟩
  yld := fun i B' H' x H'' u h1 h2 h3 hu hy => by
    obtain ⟨T, y, rfl, hT, rfl, hy⟩ := hy
    obtain ⟨d, hd, rfl⟩ := enI_at hu
    obtain ⟨v, hv, rv⟩ := r.at hd
    have e := hy vs (Same.seq h2 (Same.seq h1 s))
    rw [hv] at e
    cases e
    rw [Nat.zero_add]
    exact yld_tup h3 h2 (.cons (.int _) (.cons (rv.mono (LF.mono h1)) .nil)) hT
  stop := fun i B' H' h1 h2 hi => by
    rw [enI_len, ← r.length] at hi
    exact ⟨vs, Same.seq h2 (Same.seq h1 s), hi⟩
theorem pidEn {elts : List Expr} {kk : Nat} {tpos : Pos} (hm : X.mg "enumerate" = none) (he : PD X H0 W e f) (hg : Gl X "enumerate" := by rfl) (hs : starEach [e] X.env = [(false, eval e X.env)] := by rfl) : PID X H0 W (.Tuple elts kk tpos) (.Call (.Name "enumerate" p) [e] [] pos) (iM mkEn f) :=
  ⟨piWeak (pi_enum hg hm (pa_cons he.z pa_nil (by rw [hs]; rfl)) hs) fun σ H R ⟨B, ρ, E, q⟩ => ⟨B, ρ, E, im_ok q fun s its v B1 H1 n1 r1 hz h2 => by
    unfold mkEn at hz
    split at hz
    · rename_i fr ds
      cases hz
      obtain ⟨p, vs, rfl, s1, a1⟩ := Rep.lstV r1
      exact ⟨p, vs, rfl, LF.toH n1.bh p _ s1, h2 _ (ite_ok (LF.sq s1) a1)⟩
    · cases hz⟩⟩
/-- a tuple's items -/
def mkTp : Sl → Option (List Sl)
  | .val fr (.tuple ds) => some (ds.map (mkv fr))
  | _ => none
theorem LF.sqt {fr : Bool} {p : Addr} {vs : List V} (h : LF K H0 B fr p (.tup vs)) : SqT K B p vs := by
  cases fr with
  | true => exact SqT.of (nw_same _ _ h)
  | false => exact h
theorem itt_ok {fr : Bool} {p : Addr} {vs : List V} {ds : List PyData} (s : SqT K B p vs) (r : RepAll (LF K H0 B fr) vs ds) : ItOk K H0 B (Itt K p) (ds.map (mkv fr)) where
  go := fun i B' H' h1 h2 hi => by
    rw [List.length_map, ← r.length] at hi
    exact ⟨vs, vs[i], Same.sqt h2 (Same.sqt h1 s), by simp [hi]⟩
  yld := fun i B' H' x H'' u h1 h2 h3 hu hy => by
    obtain ⟨rfl, hy⟩ := hy
    obtain ⟨d, hd, rfl⟩ := map_at hu
    obtain ⟨v, hv, rv⟩ := r.at hd
    have e := hy vs (Same.sqt h2 (Same.sqt h1 s))
    rw [hv] at e
    cases e
    exact ⟨B', Nx.refl h2, mkv_rep (H := H'') (rv.mono (LF.mono h1))⟩
  stop := fun i B' H' h1 h2 hi => by
    rw [List.length_map, ← r.length] at hi
    exact ⟨vs, Same.sqt h2 (Same.sqt h1 s), hi⟩
theorem pidT (he : PD X H0 W e f) : PID X H0 W tg e (iM mkTp f) :=
  ⟨piWeak (pi_tup he.z) fun σ H R ⟨B, ρ, E, q⟩ => ⟨B, ρ, E, im_ok q fun s its v B1 H1 n1 r1 hz h2 => by
    unfold mkTp at hz
    split at hz
    · rename_i fr ds
      cases hz
      obtain ⟨p, vs, rfl, s1, a1⟩ := Rep.tupV r1
      exact ⟨p, rfl, ⟨vs, LF.toH n1.bh p _ s1⟩, h2 _ (itt_ok (LF.sqt s1) a1)⟩
    · cases hz⟩⟩
/-- reversed(list) -/
def mkRv : Sl → Option (List Sl)
  | .val fr (.list ds) => some (ds.reverse.map (mkv fr))
  | _ => none
/-! ### zip of two lists -/
def zpI (fr : Bool) : List PyData → List PyData → List Sl
  | d :: ds, e :: es => .val fr (.tuple [d, e]) :: zpI fr ds es
  | _, _ => []
theorem zpI_len {fr : Bool} : ∀ (ds es : List PyData), (zpI fr ds es).length = min ds.length es.length
  | [], _ => by simp [zpI]
  | _ :: _, [] => by simp [zpI]
  | _ :: ds, _ :: es => by
    show (zpI fr ds es).length + 1 = _
    rw [zpI_len ds es]; simp only [List.length_cons]; omega
theorem zpI_at {fr : Bool} : ∀ {ds es : List PyData} {i : Nat} {s : Sl}, (zpI fr ds es)[i]? = some s → ∃ d e, ds[i]? = some d ∧ es[i]? = some e ∧ s = .val fr (.tuple [d, e])
  | [], _, _, _, h => by simp [zpI] at h
  | _ :: _, [], _, _, h => by simp [zpI] at h
  | d :: ds, e :: es, 0, s, h => by
    have h' : some (Sl.val fr (.tuple [d, e])) = some s := h
    exact ⟨d, e, rfl, rfl, (Option.some.inj h').symm⟩
  | d :: ds, e :: es, i + 1, s, h => zpI_at (i := i) (show (zpI fr ds es)[i]? = some s from h)
def mkZp : Sl → Sl → Option (List Sl)
  | .val fr (.list ds), .val fr' (.list es) => some (zpI (fr && fr') ds es)
  | _, _ => none
theorem itz_ok {fr fr' : Bool} {p p' : Addr} {vs vs' : List V} {ds ds' : List PyData} (s : SqL K B p vs) (r : RepAll (LF K H0 B fr) vs ds) (s' : SqL K B p' vs') (r' : RepAll (LF K H0 B fr') vs' ds') : ItOk K H0 B (Itz K p p') (zpI (fr && fr') ds ds') where
  go := fun i B' H' h1 h2 hi => by
    rw [zpI_len, ← r.length, ← r'.length] at hi
    have g1 : i < vs.length := by omega
    have g2 : i < vs'.length := by omega
    exact ⟨vs, vs', vs[i], vs'[i], Same.seq h2 (Same.seq h1 s), Same.seq h2 (Same.seq h1 s'), by simp [g1], by simp [g2]⟩
  yld := fun i B' H' x H'' u h1 h2 h3 hu hy => by
    obtain ⟨T, y, y', rfl, hT, rfl, hy, hy'⟩ := hy
    obtain ⟨d, d', hd, hd', rfl⟩ := zpI_at hu
    obtain ⟨v, hv, rv⟩ := r.at hd
    obtain ⟨v', hv', rv'⟩ := r'.at hd'
    have e := hy vs (Same.seq h2 (Same.seq h1 s))
    rw [hv] at e
    cases e
    have e := hy' vs' (Same.seq h2 (Same.seq h1 s'))
    rw [hv'] at e
    cases e
    exact yld_tup h3 h2 (.cons ((rv.mono (LF.mono h1)).mono LF.and1) (.cons ((rv'.mono (LF.mono h1)).mono LF.and2) .nil)) hT
  stop := fun i B' H' h1 h2 hi => by
    rw [zpI_len, ← r.length, ← r'.length] at hi
    exact ⟨vs, vs', Same.seq h2 (Same.seq h1 s), Same.seq h2 (Same.seq h1 s'), by omega⟩
def iZp (f g : EF) : IF := fun ρ => match f ρ with
  | some (.ok s) => iM (mkZp (frz s)) g ρ
  | some (.ex n) => some (.ex n)
  | none => none
theorem OKI.nx {o : Option Ri} {R : It → Hp → Prop} (q : OKI K mg H0 W B H σ o R) (n : Nx B H B' H') : OKI K mg H0 W B' H' σ o R := by
  rcases q with ⟨its, h1, h2⟩ | ⟨m, h1, h2⟩
  · exact .inl ⟨its, h1, fun J B2 H2 n2 => h2 J B2 H2 (n.trans n2)⟩
  · exact .inr ⟨m, h1, h2.nx n⟩
theorem pidZp {elts : List Expr} {kk : Nat} {tpos : Pos} (hm : X.mg "zip" = none) (ha : PD X H0 W a f) (hb : PD X H0 W b g) (hg : Gl X "zip" := by rfl) (hs : starEach [a, b] X.env = [(false, eval a X.env), (false, eval b X.env)] := by rfl) (hs2 : starEach [b] X.env = [(false, eval b X.env)] := by rfl) : PID X H0 W (.Tuple elts kk tpos) (.Call (.Name "zip" p) [a, b] [] pos) (iZp f g) :=
  ⟨piWeak (pi_zip hg hm (pa_cons ha.z (pa_cons hb.z pa_nil (by rw [hs2]; rfl)) (by rw [hs, hs2])) (by rw [hs, hs2]) (by rw [hs2]; rfl)) fun σ H R ⟨B, ρ, E, q⟩ => ⟨B, ρ, E, by
    have q' : OKI X.K X.mg H0 W B H σ (iZp f g ρ) R := q
    unfold iZp at q'
    cases r : f ρ with
    | none => rw [r] at q'; rcases q' with ⟨s, h1, h2⟩ | ⟨m, h1, h2⟩ <;> cases h1
    | some o =>
      rw [r] at q'
      cases o with
      | ex n =>
        rcases q' with ⟨s, h1, h2⟩ | ⟨m, h1, h2⟩
        · cases h1
        · cases h1; exact .inr ⟨n, rfl, h2⟩
      | ok s =>
        refine .inl ⟨s, rfl, fun v B1 H1 n1 r1 => ?_⟩
        dsimp only at q'
        refine ⟨B1, ρ, E.nx n1, im_ok (OKI.nx q' n1) fun s' its v' B2 H2 n2 r2 hz h2 => ?_⟩
        have r1' := r1.mono n2
        generalize hs' : frz s = s0 at hz r1'
        unfold mkZp at hz
        split at hz
        · rename_i fr ds fr' es
          cases hz
          obtain ⟨p, vs, rfl, s1, a1⟩ := Rep.lstV r1'
          obtain ⟨p', vs', rfl, s2, a2⟩ := Rep.lstV r2
          exact ⟨p, p', vs, vs', rfl, LF.toH n2.bh p _ s1, LF.toH n2.bh p' _ s2, h2 _ (itz_ok (LF.sq s1) a1 (LF.sq s2) a2)⟩
        · cases hz⟩⟩
end
end PL

/-! PL11: loops with forgotten slots; the functions' equations, for rewriting. -/
namespace PL
open PySem PySem.Spec PyProof.Rows L2

/-! ### forgotten slots -/
def fgt : List Nat → Ev → Ev
  | [], ρ => ρ
  | i :: D, ρ => fgt D (ρ.set i .und)
theorem ER.fgt {K : PySem.W.Frag} {H0 : En} {B H : Hp} {σ : L2.St} : ∀ (D : List Nat) {ρ : Ev}, ER K H0 B H σ ρ → ER K H0 B H σ (fgt D ρ)
  | [], _, E => E
  | i :: D, ρ, E => by
    refine ER.fgt D (ρ := ρ.set i .und) ?_
    obtain ⟨F, f1, f2, f3, f4⟩ := E.ex
    refine ⟨E.e0, E.b0, E.n0, E.eB, by rw [List.length_set]; exact E.len, F, f1, f2, f3, fun j u hu => ?_⟩
    by_cases hj : j = i
    · subst hj
      have hl : j < ρ.length := by have := (List.getElem?_eq_some_iff.mp hu).1; rwa [List.length_set] at this
      rw [List.getElem?_set_self hl] at hu
      cases hu
      trivial
    · rw [List.getElem?_set_ne (Ne.symm hj)] at hu
      exact f4 j u hu
section
variable {X : Cx} {H0 : En} {W : WX} {K : PySem.W.Frag} {B H : Hp} {σ : L2.St} {ρ : Ev} {sts : List Stmt} {F : SF} {e c tg : Expr} {pos : Pos} {t : BF}
def sFg (D : List Nat) (F : SF) : SF := fun ρ => F (fgt D ρ)
theorem psdsFg {D : List Nat} (h : PSDs X H0 W sts F) : PSDs X H0 W sts (sFg D F) := psdsGhost (fun ρ => some (fgt D ρ)) (fun B H σ ρ ρ' E q => by cases q; exact ⟨B, E.fgt D, Same.refl _⟩) h

/-! ### for -/
def turn (D : List Nat) (t : GF) (body : SF) (s : Sl) (ρ : Ev) : Option Out := match t s ρ with
  | none => none
  | some ρ1 => match body ρ1 with
    | some (.nx ρ2) => some (.nx (fgt D ρ2))
    | some (.ct ρ2) => some (.nx (fgt D ρ2))
    | some (.bk ρ2) => some (.bk (fgt D ρ2))
    | r => r
def forT (tn : Sl → Ev → Option Out) : List Sl → Ev → Option Out
  | [], ρ => some (.nx ρ)
  | s :: ss, ρ => match tn s ρ with
    | some (.nx ρ2) => forT tn ss ρ2
    | some (.bk ρ2) => some (.nx ρ2)
    | r => r
def sForD (D : List Nat) (g : IF) (t : GF) (body : SF) : SF := fun ρ => match g ρ with
  | some (.ok its) => forT (turn D t body) its (fgt D ρ)
  | some (.ex n) => some (.ex n ρ)
  | none => none
theorem psdForD {D : List Nat} {g : IF} {tt : GF} (hp : PassesOwn (model X.prog X.w) X.A X.env X.xe) (hc : X.calm = true) (hi : PID X H0 W tg e g) (hg : PGD X H0 tg tt) (hb : PSDs X H0 W sts F) (hs : ∀ x, foldedSetIterable e X.env x = pure x := by intro _; rfl) : PSD X H0 W (.For tg e sts [] pos) (sForD D g tt F) := ⟨psWeak (ps_for hp hc hi.pi hg.pg hb.pss hs) fun D' σ H ⟨B, ρ, o, E, h, ho⟩ => ⟨B, ρ, E, by
  unfold sForD at h
  cases r : g ρ with
  | none => rw [r] at h; cases h
  | some q =>
    rw [r] at h
    cases q with
    | ex n => cases h; exact .inr ⟨n, rfl, kx_of E ho⟩
    | ok its =>
      refine .inl ⟨its, rfl, fun J B1 H1 n1 I1 => ?_⟩
      dsimp only at h
      refine ⟨fun i m σ H => m = its.length - i ∧ i ≤ its.length ∧ ∃ B2 ρ2, ER X.K H0 B2 H σ ρ2 ∧ Same B1 B2 ∧ forT (turn D tt F) (its.drop i) ρ2 = some o, ⟨_, rfl, Nat.zero_le _, B1, fgt D ρ, (E.nx n1).fgt D, Same.refl _, h⟩, ?_⟩
      rintro i m σ3 H3 ⟨rfl, hi, B2, ρ2, E2, s2, h2⟩
      by_cases hlt : i < its.length
      · refine .inr ⟨I1.go i B2 H3 s2 E2.eB hlt, ?_⟩
        have hd : its.drop i = its[i] :: its.drop (i + 1) := List.drop_eq_getElem_cons hlt
        rw [hd] at h2
        unfold forT turn at h2
        cases rt : tt its[i] ρ2 with
        | none => rw [rt] at h2; cases h2
        | some ρ3 =>
          rw [rt] at h2
          dsimp only at h2
          refine ⟨fun σ' H' => ∃ B4 ρ4, ER X.K H0 B4 H' σ' ρ4 ∧ Same B1 B4 ∧ forT (turn D tt F) (its.drop (i + 1)) ρ4 = some o, fun σ' H' ⟨B4, ρ4, E4, s4, h4⟩ => ⟨_, by omega, rfl, hlt, B4, ρ4, E4, s4, h4⟩, fun x H4 hy => ?_⟩
          obtain ⟨B3, n3, rz⟩ := I1.yld i B2 H3 x H4 its[i] s2 E2.eB E2.e0 (List.getElem?_eq_getElem hlt) hy
          refine ⟨B3, ρ2, its[i], ρ3, E2.nx n3, rz, rt, fun σ5 E5 => ?_⟩
          have s15 : Same B1 B3 := s2.trans n3.b
          cases rb : F ρ3 with
          | none => rw [rb] at h2; cases h2
          | some ob =>
            rw [rb] at h2
            refine ⟨B3, ρ3, ob, E5, rb, ?_⟩
            cases ob with
            | nx ρ6 => exact fun σ6 B6 H6 E6 s6 => ⟨B6, _, E6.fgt D, s15.trans s6, h2⟩
            | ct ρ6 => exact fun σ6 B6 H6 E6 s6 => ⟨B6, _, E6.fgt D, s15.trans s6, h2⟩
            | bk ρ6 => cases h2; exact fun σ6 B6 H6 E6 s6 => ho σ6 B6 H6 (E6.fgt D) ((n1.b.trans s15).trans s6)
            | rt s => cases h2; exact ho.same (n1.b.trans s15)
            | ex n ρ6 => cases h2; exact ho.same (n1.b.trans s15)
      · have ei : i = its.length := by omega
        subst ei
        rw [List.drop_length] at h2
        cases h2
        exact .inl ⟨I1.stop _ B2 H3 s2 E2.eB (Nat.le_refl _), ho σ3 B2 H3 E2 (n1.b.trans s2)⟩⟩⟩

/-! ### while -/
def wturn (D : List Nat) (t : BF) (body : SF) (ρ : Ev) : Option Out := match t ρ with
  | some (.ok true) => match body ρ with
    | some (.nx ρ2) => some (.nx (fgt D ρ2))
    | some (.ct ρ2) => some (.nx (fgt D ρ2))
    | some (.bk ρ2) => some (.bk (fgt D ρ2))
    | r => r
  | some (.ok false) => some (.bk ρ)
  | some (.ex n) => some (.ex n ρ)
  | none => none
def whileT (wt : Ev → Option Out) : Nat → Ev → Option Out
  | 0, _ => none
  | n + 1, ρ => match wt ρ with
    | some (.nx ρ2) => whileT wt n ρ2
    | some (.bk ρ2) => some (.nx ρ2)
    | r => r
def fuel : Nat := 1000000000000000000
def sWhileD (D : List Nat) (t : BF) (body : SF) : SF := fun ρ => whileT (wturn D t body) fuel (fgt D ρ)
theorem psdWhileD {D : List Nat} (hp : PassesOwn (model X.prog X.w) X.A X.env X.xe) (hc : PB X H0 W c t) (hb : PSDs X H0 W sts F) : PSD X H0 W (.While c sts [] pos) (sWhileD D t F) := ⟨psWeak (ps_while hp hc.pt hb.pss) fun D' σ H ⟨B, ρ, o, E, h, ho⟩ => by
  unfold sWhileD at h
  generalize fuel = N at h
  refine ⟨fun m σ H => ∃ B2 ρ2, ER X.K H0 B2 H σ ρ2 ∧ Same B B2 ∧ whileT (wturn D t F) m ρ2 = some o, ⟨N, B, _, E.fgt D, Same.refl _, h⟩, ?_⟩
  rintro m σ3 H3 ⟨B2, ρ2, E2, s2, h2⟩
  cases m with
  | zero => cases h2
  | succ m =>
    refine ⟨B2, ρ2, E2, ?_⟩
    unfold whileT wturn at h2
    cases r : t ρ2 with
    | none => rw [r] at h2; cases h2
    | some q =>
      rw [r] at h2
      cases q with
      | ex n => cases h2; exact .inr ⟨n, rfl, kx_of E2 (ho.same s2)⟩
      | ok b =>
        refine .inl ⟨b, rfl, fun B4 H4 n4 => ?_⟩
        cases b with
        | false => rw [if_neg Bool.false_ne_true]; cases h2; exact ho σ3 B4 H4 (E2.nx n4) (s2.trans n4.b)
        | true =>
          rw [if_pos rfl]
          dsimp only at h2
          refine ⟨fun σ' H' => ∃ B5 ρ5, ER X.K H0 B5 H' σ' ρ5 ∧ Same B B5 ∧ whileT (wturn D t F) m ρ5 = some o, fun σ' H' ⟨B5, ρ5, E5, s5, h5⟩ => ⟨m, Nat.lt_succ_self m, B5, ρ5, E5, s5, h5⟩, ?_⟩
          have s14 : Same B B4 := s2.trans n4.b
          cases rb : F ρ2 with
          | none => rw [rb] at h2; cases h2
          | some ob =>
            rw [rb] at h2
            refine ⟨B4, ρ2, ob, E2.nx n4, rb, ?_⟩
            cases ob with
            | nx ρ6 => exact fun σ6 B6 H6 E6 s6 => ⟨B6, _, E6.fgt D, s14.trans s6, h2⟩
            | ct ρ6 => exact fun σ6 B6 H6 E6 s6 => ⟨B6, _, E6.fgt D, s14.trans s6, h2⟩
            | bk ρ6 => cases h2; exact fun σ6 B6 H6 E6 s6 => ho σ6 B6 H6 (E6.fgt D) (s14.trans s6)
            | rt s => cases h2; exact ho.same s14
            | ex n ρ6 => cases h2; exact ho.same s14⟩
end

/-! ### rules about loops -/
theorem forT_inv {α : Type} {tn : Sl → Ev → Option Out} {mk : α → Sl} (P : List α → Ev → Prop) (h : ∀ a l ρ, P (a :: l) ρ → ∃ ρ', tn (mk a) ρ = some (.nx ρ') ∧ P l ρ') : ∀ (l : List α) (ρ : Ev), P l ρ → ∃ ρ', forT tn (l.map mk) ρ = some (.nx ρ') ∧ P [] ρ'
  | [], ρ, p => ⟨ρ, rfl, p⟩
  | a :: l, ρ, p => by
    obtain ⟨ρ', h1, h2⟩ := h a l ρ p
    obtain ⟨ρ2, h3, h4⟩ := forT_inv P h l ρ' h2
    refine ⟨ρ2, ?_, h4⟩
    rw [List.map_cons, forT, h1]
    exact h3
theorem forT_fold {α β : Type} {tn : Sl → Ev → Option Out} {mk : α → Sl} {enc : β → Ev} {f : β → α → β} (I : β → Prop) : ∀ (l : List α) (b : β), I b → (∀ a ∈ l, ∀ b, I b → tn (mk a) (enc b) = some (.nx (enc (f b a))) ∧ I (f b a)) → forT tn (l.map mk) (enc b) = some (.nx (enc (l.foldl f b))) ∧ I (l.foldl f b)
  | [], b, i, _ => ⟨rfl, i⟩
  | a :: l, b, i, h => by
    obtain ⟨h1, h2⟩ := h a List.mem_cons_self b i
    rw [List.map_cons, forT, h1]
    exact forT_fold I l (f b a) h2 fun a' ha b' i' => h a' (List.mem_cons_of_mem _ ha) b' i'
theorem forT_run {α : Type} {tn : Sl → Ev → Option Out} {mk : α → Sl} (P : List α → Ev → Prop) (R : Option Out → Prop) (h0 : ∀ ρ, P [] ρ → R (some (.nx ρ)))
    (h : ∀ a l ρ, P (a :: l) ρ → (∃ ρ', tn (mk a) ρ = some (.nx ρ') ∧ P l ρ') ∨ (∃ ρ', tn (mk a) ρ = some (.bk ρ') ∧ R (some (.nx ρ'))) ∨ (∃ s, tn (mk a) ρ = some (.rt s) ∧ R (some (.rt s))) ∨ ∃ n ρ', tn (mk a) ρ = some (.ex n ρ') ∧ R (some (.ex n ρ'))) : ∀ (l : List α) (ρ : Ev), P l ρ → R (forT tn (l.map mk) ρ)
  | [], ρ, p => h0 ρ p
  | a :: l, ρ, p => by
    rw [List.map_cons, forT]
    rcases h a l ρ p with ⟨ρ', h1, h2⟩ | ⟨ρ', h1, h2⟩ | ⟨s, h1, h2⟩ | ⟨n, ρ', h1, h2⟩
    · rw [h1]; exact forT_run P R h0 h l ρ' h2
    · rw [h1]; exact h2
    · rw [h1]; exact h2
    · rw [h1]; exact h2
theorem forT_nx {α : Type} {tn : Sl → Ev → Option Out} {mk : α → Sl} (P : List α → Ev → Prop) (R : Option Out → Prop) {l : List α} {ρ : Ev} (p : P l ρ) (h : ∀ a l ρ, P (a :: l) ρ → ∃ ρ', tn (mk a) ρ = some (.nx ρ') ∧ P l ρ') (h0 : ∀ ρ, P [] ρ → R (some (.nx ρ))) : R (forT tn (l.map mk) ρ) := by
  obtain ⟨ρ', h1, h2⟩ := forT_inv P h l ρ p
  rw [h1]
  exact h0 ρ' h2
theorem whileT_run {wt : Ev → Option Out} (P : Nat → Ev → Prop) (R : Option Out → Prop)
    (h : ∀ m ρ, P m ρ → (∃ ρ' m', m' < m ∧ wt ρ = some (.nx ρ') ∧ P m' ρ') ∨ (∃ ρ', wt ρ = some (.bk ρ') ∧ R (some (.nx ρ'))) ∨ (∃ s, wt ρ = some (.rt s) ∧ R (some (.rt s))) ∨ ∃ n ρ', wt ρ = some (.ex n ρ') ∧ R (some (.ex n ρ'))) : ∀ (n m : Nat) (ρ : Ev), m < n → P m ρ → R (whileT wt n ρ)
  | 0, _, _, hm, _ => absurd hm (Nat.not_lt_zero _)
  | n + 1, m, ρ, hm, p => by
    rw [whileT]
    rcases h m ρ p with ⟨ρ', m', hlt, h1, h2⟩ | ⟨ρ', h1, h2⟩ | ⟨s, h1, h2⟩ | ⟨n', ρ', h1, h2⟩
    · rw [h1]; exact whileT_run P R h n m' ρ' (by omega) h2
    · rw [h1]; exact h2
    · rw [h1]; exact h2
    · rw [h1]; exact h2

/-! ### equations: statements -/
def kSeq (o : Option Out) (g : SF) : Option Out := match o with | some (.nx ρ') => g ρ' | r => r
theorem ev_seq (f g : SF) (ρ : Ev) : sSeq f g ρ = kSeq (f ρ) g := rfl
theorem kSeq_nx (ρ : Ev) (g : SF) : kSeq (some (.nx ρ)) g = g ρ := rfl
theorem kSeq_rt (s : Sl) (g : SF) : kSeq (some (.rt s)) g = some (.rt s) := rfl
theorem kSeq_bk (s : Ev) (g : SF) : kSeq (some (.bk s)) g = some (.bk s) := rfl
theorem kSeq_ct (s : Ev) (g : SF) : kSeq (some (.ct s)) g = some (.ct s) := rfl
theorem kSeq_ex (n : Str) (s : Ev) (g : SF) : kSeq (some (.ex n s)) g = some (.ex n s) := rfl
theorem ev_nil (ρ : Ev) : sNil ρ = some (.nx ρ) := rfl
theorem ev_pass (ρ : Ev) : sPass ρ = some (.nx ρ) := rfl
theorem ev_break (ρ : Ev) : sBreak ρ = some (.bk ρ) := rfl
theorem ev_cont (ρ : Ev) : sCont ρ = some (.ct ρ) := rfl
theorem ev_retn (ρ : Ev) : sRetN ρ = some (.rt (.val true .none)) := rfl
theorem ev_fg (D : List Nat) (F : SF) (ρ : Ev) : sFg D F ρ = F (fgt D ρ) := rfl
theorem fgt_nil (ρ : Ev) : fgt [] ρ = ρ := rfl
theorem fgt_cons (i : Nat) (D : List Nat) (ρ : Ev) : fgt (i :: D) ρ = fgt D (ρ.set i .und) := rfl
def kGh (o : Option Ev) (F : SF) : Option Out := match o with | some ρ' => F ρ' | none => none
theorem ev_gh (g : Ev → Option Ev) (F : SF) (ρ : Ev) : gh g F ρ = kGh (g ρ) F := rfl
theorem kGh_some (ρ : Ev) (F : SF) : kGh (some ρ) F = F ρ := rfl
def kFrz (i : Nat) (ρ : Ev) (o : Option Sl) : Option Ev := match o with | some s => some (ρ.set i (frz s)) | none => none
theorem ev_gfrz (i : Nat) (ρ : Ev) : gFrz i ρ = kFrz i ρ ρ[i]? := by unfold gFrz kFrz; rfl
theorem kFrz_some (i : Nat) (ρ : Ev) (s : Sl) : kFrz i ρ (some s) = some (ρ.set i (frz s)) := rfl
def kOwn (i : Nat) (ρ : Ev) (o : Option Sl) : Option Ev := match o with | some (.full (.list ds)) => some (ρ.set i (.own true ds)) | some _ => some ρ | none => none
theorem ev_gown (i : Nat) (ρ : Ev) : gOwn i ρ = kOwn i ρ ρ[i]? := by unfold gOwn kOwn; rfl
theorem kOwn_full (i : Nat) (ρ : Ev) (ds : List PyData) : kOwn i ρ (some (.full (.list ds))) = some (ρ.set i (.own true ds)) := rfl
theorem kOwn_own (i : Nat) (ρ : Ev) (fr : Bool) (ds : List PyData) : kOwn i ρ (some (.own fr ds)) = some ρ := rfl
theorem kOwn_val (i : Nat) (ρ : Ev) (fr : Bool) (d : PyData) : kOwn i ρ (some (.val fr d)) = some ρ := rfl
def kSetZ (i : Nat) (ρ : Ev) (o : Option Rs) : Option Out := bSz o ρ fun s => if stb s = true then some (.nx (ρ.set i s)) else none
theorem ev_setZ (i : Nat) (f : EF) (ρ : Ev) : sSetZ i f ρ = kSetZ i ρ (f ρ) := rfl
theorem kSetZ_val (i : Nat) (ρ : Ev) (fr : Bool) (d : PyData) : kSetZ i ρ (some (.ok (.val fr d))) = some (.nx (ρ.set i (.val fr d))) := rfl
theorem kSetZ_own (i : Nat) (ρ : Ev) (fr : Bool) (d : List PyData) : kSetZ i ρ (some (.ok (.own fr d))) = some (.nx (ρ.set i (.val fr (.list d)))) := rfl
theorem kSetZ_full (i : Nat) (ρ : Ev) (d : PyData) : kSetZ i ρ (some (.ok (.full d))) = some (.nx (ρ.set i (.val true d))) := rfl
theorem kSetZ_ex (i : Nat) (ρ : Ev) (n : Str) : kSetZ i ρ (some (.ex n)) = some (.ex n ρ) := rfl
def kSet (i : Nat) (ρ : Ev) (o : Option Rs) : Option Out := bS o ρ fun s => if stb s = true then some (.nx (ρ.set i s)) else none
theorem ev_set (i : Nat) (f : EF) (ρ : Ev) : sSet i f ρ = kSet i ρ (f ρ) := rfl
theorem kSet_val (i : Nat) (ρ : Ev) (fr : Bool) (d : PyData) : kSet i ρ (some (.ok (.val fr d))) = some (.nx (ρ.set i (.val fr d))) := rfl
theorem kSet_own (i : Nat) (ρ : Ev) (fr : Bool) (d : List PyData) : kSet i ρ (some (.ok (.own fr d))) = some (.nx (ρ.set i (.own fr d))) := rfl
theorem kSet_full (i : Nat) (ρ : Ev) (d : PyData) : kSet i ρ (some (.ok (.full d))) = some (.nx (ρ.set i (.full d))) := rfl
theorem kSet_ex (i : Nat) (ρ : Ev) (n : Str) : kSet i ρ (some (.ex n)) = some (.ex n ρ) := rfl
def kRet (ρ : Ev) (o : Option Rs) : Option Out := bS o ρ fun s => if stb s = true then some (.rt s) else none
theorem ev_ret (f : EF) (ρ : Ev) : sRet f ρ = kRet ρ (f ρ) := rfl
theorem kRet_val (ρ : Ev) (fr : Bool) (d : PyData) : kRet ρ (some (.ok (.val fr d))) = some (.rt (.val fr d)) := rfl
theorem kRet_own (ρ : Ev) (fr : Bool) (d : List PyData) : kRet ρ (some (.ok (.own fr d))) = some (.rt (.own fr d)) := rfl
theorem kRet_full (ρ : Ev) (d : PyData) : kRet ρ (some (.ok (.full d))) = some (.rt (.full d)) := rfl
theorem kRet_ex (ρ : Ev) (n : Str) : kRet ρ (some (.ex n)) = some (.ex n ρ) := rfl
def kRetO (o : Option Sl) : Option Out := match o with
  | some (.own fr ds) => some (.rt (.own fr ds))
  | some (.full d) => some (.rt (.full d))
  | some (.val fr d) => some (.rt (.val fr d))
  | _ => none
theorem ev_retO (i : Nat) (ρ : Ev) : sRetOwn i ρ = kRetO ρ[i]? := rfl
theorem kRetO_own (fr : Bool) (ds : List PyData) : kRetO (some (.own fr ds)) = some (.rt (.own fr ds)) := rfl
theorem kRetO_val (fr : Bool) (d : PyData) : kRetO (some (.val fr d)) = some (.rt (.val fr d)) := rfl
theorem kRetO_full (d : PyData) : kRetO (some (.full d)) = some (.rt (.full d)) := rfl
def kExpr (ρ : Ev) (o : Option Rs) : Option Out := bSz o ρ fun _ => some (.nx ρ)
theorem ev_expr (f : EF) (ρ : Ev) : sExpr f ρ = kExpr ρ (f ρ) := rfl
theorem kExpr_ok (ρ : Ev) (s : Sl) : kExpr ρ (some (.ok s)) = some (.nx ρ) := rfl
theorem kExpr_ex (ρ : Ev) (n : Str) : kExpr ρ (some (.ex n)) = some (.ex n ρ) := rfl
def kIf (o : Option Rb) (F G : SF) (ρ : Ev) : Option Out := match o with
  | some (.ok true) => F ρ
  | some (.ok false) => G ρ
  | some (.ex n) => some (.ex n ρ)
  | none => none
theorem ev_if (t : BF) (F G : SF) (ρ : Ev) : sIf t F G ρ = kIf (t ρ) F G ρ := rfl
theorem kIf_true (F G : SF) (ρ : Ev) : kIf (some (.ok true)) F G ρ = F ρ := rfl
theorem kIf_false (F G : SF) (ρ : Ev) : kIf (some (.ok false)) F G ρ = G ρ := rfl
def kFor (ρ ρ' : Ev) (o : Option Ri) (tn : Sl → Ev → Option Out) : Option Out := match o with
  | some (.ok its) => forT tn its ρ'
  | some (.ex n) => some (.ex n ρ)
  | none => none
theorem ev_for (D : List Nat) (g : IF) (t : GF) (b : SF) (ρ : Ev) : sForD D g t b ρ = kFor ρ (fgt D ρ) (g ρ) (turn D t b) := rfl
theorem kFor_ok (ρ ρ' : Ev) (its : List Sl) (tn : Sl → Ev → Option Out) : kFor ρ ρ' (some (.ok its)) tn = forT tn its ρ' := rfl
theorem ev_while (D : List Nat) (t : BF) (b : SF) (ρ : Ev) : sWhileD D t b ρ = whileT (wturn D t b) fuel (fgt D ρ) := rfl
def kTurn (D : List Nat) (o : Option Out) : Option Out := match o with
  | some (.nx ρ2) => some (.nx (fgt D ρ2))
  | some (.ct ρ2) => some (.nx (fgt D ρ2))
  | some (.bk ρ2) => some (.bk (fgt D ρ2))
  | r => r
def kTurn1 (D : List Nat) (o : Option Ev) (body : SF) : Option Out := match o with | none => none | some ρ1 => kTurn D (body ρ1)
theorem ev_turn (D : List Nat) (t : GF) (body : SF) (s : Sl) (ρ : Ev) : turn D t body s ρ = kTurn1 D (t s ρ) body := by
  unfold turn kTurn1 kTurn
  rfl
theorem kTurn1_some (D : List Nat) (ρ : Ev) (body : SF) : kTurn1 D (some ρ) body = kTurn D (body ρ) := rfl
theorem kTurn_nx (D : List Nat) (ρ : Ev) : kTurn D (some (.nx ρ)) = some (.nx (fgt D ρ)) := rfl
theorem kTurn_ct (D : List Nat) (ρ : Ev) : kTurn D (some (.ct ρ)) = some (.nx (fgt D ρ)) := rfl
theorem kTurn_bk (D : List Nat) (ρ : Ev) : kTurn D (some (.bk ρ)) = some (.bk (fgt D ρ)) := rfl
theorem kTurn_rt (D : List Nat) (s : Sl) : kTurn D (some (.rt s)) = some (.rt s) := rfl
theorem kTurn_ex (D : List Nat) (n : Str) (ρ : Ev) : kTurn D (some (.ex n ρ)) = some (.ex n ρ) := rfl
def kW (D : List Nat) (o : Option Rb) (body : SF) (ρ : Ev) : Option Out := match o with
  | some (.ok true) => kTurn D (body ρ)
  | some (.ok false) => some (.bk ρ)
  | some (.ex n) => some (.ex n ρ)
  | none => none
theorem ev_wturn (D : List Nat) (t : BF) (body : SF) (ρ : Ev) : wturn D t body ρ = kW D (t ρ) body ρ := by
  unfold wturn kW kTurn
  rfl
theorem kW_true (D : List Nat) (body : SF) (ρ : Ev) : kW D (some (.ok true)) body ρ = kTurn D (body ρ) := rfl
theorem kW_false (D : List Nat) (body : SF) (ρ : Ev) : kW D (some (.ok false)) body ρ = some (.bk ρ) := rfl
theorem ev_gN (i : Nat) (fr : Bool) (d : PyData) (ρ : Ev) : gN i (.val fr d) ρ = some (ρ.set i (.val fr d)) := rfl
def kT (is : List Nat) (ρ : Ev) (o : Option (List Sl)) : Option Ev := match o with | some ss => gSets is ss ρ | none => none
theorem ev_gT (is : List Nat) (s : Sl) (ρ : Ev) : gT is s ρ = kT is ρ (itemsT s) := rfl
theorem kT_some (is : List Nat) (ρ : Ev) (ss : List Sl) : kT is ρ (some ss) = gSets is ss ρ := rfl
theorem itemsT_val (fr : Bool) (ds : List PyData) : itemsT (.val fr (.tuple ds)) = some (ds.map (mkv fr)) := rfl
theorem gSets_nil (ρ : Ev) : gSets [] [] ρ = some ρ := rfl
theorem gSets_val (i : Nat) (is : List Nat) (fr : Bool) (d : PyData) (ss : List Sl) (ρ : Ev) : gSets (i :: is) (.val fr d :: ss) ρ = gSets is ss (ρ.set i (.val fr d)) := rfl
theorem mkv_int (fr : Bool) (i : Int) : mkv fr (.int i) = .val true (.int i) := by cases fr <;> rfl
theorem mkv_bool (fr : Bool) (i : Bool) : mkv fr (.bool i) = .val true (.bool i) := by cases fr <;> rfl
theorem mkv_str (fr : Bool) (i : Str) : mkv fr (.str i) = .val true (.str i) := by cases fr <;> rfl
theorem mkv_none (fr : Bool) : mkv fr .none = .val true .none := by cases fr <;> rfl
theorem mkv_list (fr : Bool) (ds : List PyData) : mkv fr (.list ds) = .val fr (.list ds) := by cases fr <;> rfl
theorem mkv_tuple (fr : Bool) (ds : List PyData) : mkv fr (.tuple ds) = .val fr (.tuple ds) := by cases fr <;> rfl
def kU (ρ : Ev) (o : Option Ev) : Option Out := match o with | some ρ' => some (.nx ρ') | none => none
def kUnp (is : List Nat) (ρ : Ev) (o : Option Rs) : Option Out := bSz o ρ fun s => kU ρ (gT is s ρ)
theorem ev_unp (is : List Nat) (f : EF) (ρ : Ev) : sUnp is f ρ = kUnp is ρ (f ρ) := by
  unfold sUnp kUnp kU
  rfl
theorem kUnp_val (is : List Nat) (ρ : Ev) (fr : Bool) (d : PyData) : kUnp is ρ (some (.ok (.val fr d))) = kU ρ (gT is (.val fr d) ρ) := rfl
theorem kUnp_full (is : List Nat) (ρ : Ev) (d : PyData) : kUnp is ρ (some (.ok (.full d))) = kU ρ (gT is (.val true d) ρ) := rfl
theorem kU_some (ρ ρ' : Ev) : kU ρ (some ρ') = some (.nx ρ') := rfl
def kA (i : Nat) (ρ : Ev) (o : Option Sl) : Option Out := match o with | some s => some (.nx (ρ.set i s)) | none => none
def kAug (i : Nat) (F : PyData → PyData → Option PyData) (ρ : Ev) (a b : Option Rs) : Option Out := bSz a ρ fun x => bSz b ρ fun y => kA i ρ (fD F x y)
theorem ev_aug (i : Nat) (F : PyData → PyData → Option PyData) (f : EF) (ρ : Ev) : sAug i F f ρ = kAug i F ρ (eVar i ρ) (f ρ) := by
  unfold sAug kAug kA
  rfl
theorem kAug_val (i : Nat) (F : PyData → PyData → Option PyData) (ρ : Ev) (fr fr' : Bool) (d d' : PyData) : kAug i F ρ (some (.ok (.val fr d))) (some (.ok (.val fr' d'))) = kA i ρ (fD F (.val fr d) (.val fr' d')) := rfl
theorem kA_some (i : Nat) (ρ : Ev) (s : Sl) : kA i ρ (some s) = some (.nx (ρ.set i s)) := rfl
def kApp (i : Nat) (ρ : Ev) (o : Option Sl) (r : Option Rs) : Option Out := match o with
  | some (.own fr ds) => bSz r ρ fun s => match stor s with
    | some (f', d) => if ds.length < 16777216 then some (.nx (ρ.set i (.own (fr && f') (ds ++ [d])))) else none
    | none => none
  | _ => none
theorem ev_app (i : Nat) (f : EF) (ρ : Ev) : sApp i f ρ = kApp i ρ ρ[i]? (f ρ) := by
  unfold sApp kApp
  rfl
theorem kApp_val (i : Nat) (ρ : Ev) (fr : Bool) (ds : List PyData) (f' : Bool) (d : PyData) (h : ds.length < 16777216) : kApp i ρ (some (.own fr ds)) (some (.ok (.val f' d))) = some (.nx (ρ.set i (.own (fr && (f' || scal d)) (ds ++ [d])))) := by
  show (if ds.length < 16777216 then _ else _) = _
  rw [if_pos h]
theorem kApp_own (i : Nat) (ρ : Ev) (fr : Bool) (ds : List PyData) (f' : Bool) (d : List PyData) (h : ds.length < 16777216) : kApp i ρ (some (.own fr ds)) (some (.ok (.own f' d))) = some (.nx (ρ.set i (.own (fr && f') (ds ++ [.list d])))) := by
  show (if ds.length < 16777216 then some (Out.nx (ρ.set i (.own (fr && (f' || false)) (ds ++ [.list d])))) else _) = _
  rw [if_pos h, Bool.or_false]
theorem kApp_full (i : Nat) (ρ : Ev) (fr : Bool) (ds : List PyData) (d : PyData) (h : ds.length < 16777216) : kApp i ρ (some (.own fr ds)) (some (.ok (.full d))) = some (.nx (ρ.set i (.own fr (ds ++ [d])))) := by
  show (if ds.length < 16777216 then some (Out.nx (ρ.set i (.own (fr && (true || scal d)) (ds ++ [d])))) else _) = _
  rw [if_pos h, Bool.true_or, Bool.and_true]
def kPut (i : Nat) (ρ : Ev) (o : Option Sl) (r q : Option Rs) : Option Out := match o with
  | some (.own fr ds) => bSz r ρ fun s => bSz q ρ fun z => match stor s with
    | some (f', d) => match dat z with
      | some (.int k) => match ixN ds.length k with
        | some j => some (.nx (ρ.set i (.own (fr && f') (ds.set j d))))
        | none => none
      | _ => none
    | none => none
  | _ => none
theorem ev_put (i : Nat) (g f : EF) (ρ : Ev) : sPut i g f ρ = kPut i ρ ρ[i]? (f ρ) (g ρ) := by
  unfold sPut kPut
  rfl
theorem kPut_val (i : Nat) (ρ : Ev) (fr : Bool) (ds : List PyData) (f' f'' : Bool) (d : PyData) (k : Int) (j : Nat) (h : ixN ds.length k = some j) : kPut i ρ (some (.own fr ds)) (some (.ok (.val f' d))) (some (.ok (.val f'' (.int k)))) = some (.nx (ρ.set i (.own (fr && (f' || scal d)) (ds.set j d)))) := by
  show (match ixN ds.length k with | some j => some (Out.nx (ρ.set i (.own (fr && (f' || scal d)) (ds.set j d)))) | none => none) = _
  rw [h]

def kF (o : Option Out) : Option FR := match o with
  | some (.nx _) => some (.ret true .none)
  | some (.rt s) => frOf s
  | some (.ex m _) => some (.exc m)
  | _ => none
theorem callF_eq (n : Nat) (F : SF) (ds : List PyData) : callF n F ds = kF (F (entE n ds)) := rfl
def unds (n : Nat) : Ev := List.replicate n .und
theorem entE_nil (n : Nat) : entE n [] = unds n := rfl
theorem unds_succ (n : Nat) : unds (n + 1) = .und :: unds n := rfl
theorem unds_zero : unds 0 = [] := rfl
theorem entE_cons (n : Nat) (d : PyData) (ds : List PyData) : entE (n + 1) (d :: ds) = entS d :: entE n ds := by
  unfold entE
  rw [List.map_cons, List.length_cons, Nat.add_sub_add_right]
  rfl
theorem entS_int (i : Int) : entS (.int i) = .val true (.int i) := rfl
theorem entS_bool (i : Bool) : entS (.bool i) = .val true (.bool i) := rfl
theorem entS_str (i : Str) : entS (.str i) = .val true (.str i) := rfl
theorem entS_none : entS .none = .val true .none := rfl
theorem entS_list (i : List PyData) : entS (.list i) = .val false (.list i) := rfl
theorem entS_tuple (i : List PyData) : entS (.tuple i) = .val false (.tuple i) := rfl
theorem kF_nx (ρ : Ev) : kF (some (.nx ρ)) = some (.ret true .none) := rfl
theorem kF_rt (s : Sl) : kF (some (.rt s)) = frOf s := rfl
theorem kF_ex (n : Str) (ρ : Ev) : kF (some (.ex n ρ)) = some (.exc n) := rfl
theorem frOf_val (fr : Bool) (d : PyData) : frOf (.val fr d) = some (.ret (fr || scal d) d) := rfl
theorem frOf_own (fr : Bool) (d : List PyData) : frOf (.own fr d) = some (.ret fr (.list d)) := rfl
theorem frOf_full (d : PyData) : frOf (.full d) = some (.ret true d) := rfl

/-! ### equations: expressions -/
def kVar (o : Option Sl) : Option Rs := match o with
  | some (.val fr d) => some (.ok (.val fr d))
  | some (.own fr ds) => some (.ok (.bor fr ds))
  | some (.full d) => some (.ok (.brf d))
  | _ => none
theorem ev_var (i : Nat) (ρ : Ev) : eVar i ρ = kVar ρ[i]? := by unfold eVar kVar; rfl
theorem kVar_val (fr : Bool) (d : PyData) : kVar (some (.val fr d)) = some (.ok (.val fr d)) := rfl
theorem kVar_own (fr : Bool) (d : List PyData) : kVar (some (.own fr d)) = some (.ok (.bor fr d)) := rfl
theorem kVar_full (d : PyData) : kVar (some (.full d)) = some (.ok (.brf d)) := rfl
theorem ev_c (d : PyData) (ρ : Ev) : eC d ρ = some (.ok (.val true d)) := rfl
def k2 (F : Sl → Sl → Option Sl) (a b : Option Rs) : Option Rs := PL.bz a fun x => PL.bz b fun y => okO (F x y)
theorem ev_e2 (F : Sl → Sl → Option Sl) (f g : EF) (ρ : Ev) : e2 F f g ρ = k2 F (f ρ) (g ρ) := rfl
theorem k2_ok (F : Sl → Sl → Option Sl) (x y : Sl) : k2 F (some (.ok x)) (some (.ok y)) = okO (F (frz x) (frz y)) := rfl
theorem okO_some (s : Sl) : okO (some s) = some (.ok s) := rfl
def k1 (F : Sl → Option Sl) (a : Option Rs) : Option Rs := PL.bz a fun x => okO (F x)
theorem ev_e1 (F : Sl → Option Sl) (f : EF) (ρ : Ev) : e1 F f ρ = k1 F (f ρ) := rfl
theorem k1_ok (F : Sl → Option Sl) (x : Sl) : k1 F (some (.ok x)) = okO (F (frz x)) := rfl
theorem frz_val (fr : Bool) (d : PyData) : frz (.val fr d) = .val fr d := rfl
theorem frz_own (fr : Bool) (d : List PyData) : frz (.own fr d) = .val fr (.list d) := rfl
theorem frz_full (d : PyData) : frz (.full d) = .val true d := rfl
theorem frz_bor (fr : Bool) (d : List PyData) : frz (.bor fr d) = .bor fr d := rfl
theorem frz_brf (d : PyData) : frz (.brf d) = .brf d := rfl
theorem dat_val (fr : Bool) (d : PyData) : dat (.val fr d) = some d := rfl
theorem dat_bor (fr : Bool) (d : List PyData) : dat (.bor fr d) = some (.list d) := rfl
theorem dat_brf (d : PyData) : dat (.brf d) = some d := rfl
def kC (o : Option Rs) (r : Option Ra) : Option Ra := match o with
  | some (.ok s) => match r with
    | some (.ok ss) => some (.ok (frz s :: ss))
    | r => r
  | some (.ex n) => some (.ex n)
  | none => none
theorem ev_evs0 (ρ : Ev) : evs [] ρ = some (.ok []) := rfl
theorem ev_evs (f : EF) (fs : List EF) (ρ : Ev) : evs (f :: fs) ρ = kC (f ρ) (evs fs ρ) := by
  rw [evs.eq_def]; rfl
theorem kC_ok (s : Sl) (ss : List Sl) : kC (some (.ok s)) (some (.ok ss)) = some (.ok (frz s :: ss)) := rfl
def kCB (F : List Sl → Option Sl) (r : Option Ra) : Option Rs := PL.bzs r fun ss => okO (F ss)
theorem ev_cb (F : List Sl → Option Sl) (fs : List EF) (ρ : Ev) : eCB F fs ρ = kCB F (evs fs ρ) := rfl
theorem kCB_ok (F : List Sl → Option Sl) (ss : List Sl) : kCB F (some (.ok ss)) = okO (F ss) := rfl
def kCall (F : FN) (r : Option Ra) : Option Rs := PL.bzs r fun ss => cRes F ss
theorem ev_call (F : FN) (fs : List EF) (ρ : Ev) : eCall F fs ρ = kCall F (evs fs ρ) := rfl
theorem kCall_ok (F : FN) (ss : List Sl) : kCall F (some (.ok ss)) = cRes F ss := rfl
def kRes (r : Option FR) (v : Bool) : Option Rs := match r with
  | some (.ret true d) => some (.ok (if scal d = true then .val true d else .full d))
  | some (.ret false d) => if v = true then some (.ok (.val false d)) else none
  | some (.exc n) => some (.ex n)
  | none => none
def kRs (F : FN) (o : Option (List PyData)) (v : Bool) : Option Rs := match o with | some ds => kRes (F ds) v | none => none
theorem ev_cres (F : FN) (ss : List Sl) : cRes F ss = kRs F (dats ss) (ss.all isVal) := by
  unfold cRes kRs kRes
  rfl
theorem kRs_some (F : FN) (ds : List PyData) (v : Bool) : kRs F (some ds) v = kRes (F ds) v := rfl
theorem kRes_int (i : Int) (v : Bool) : kRes (some (.ret true (.int i))) v = some (.ok (.val true (.int i))) := rfl
theorem kRes_bool (i : Bool) (v : Bool) : kRes (some (.ret true (.bool i))) v = some (.ok (.val true (.bool i))) := rfl
theorem kRes_str (i : Str) (v : Bool) : kRes (some (.ret true (.str i))) v = some (.ok (.val true (.str i))) := rfl
theorem kRes_none (v : Bool) : kRes (some (.ret true .none)) v = some (.ok (.val true .none)) := rfl
theorem kRes_list (ds : List PyData) (v : Bool) : kRes (some (.ret true (.list ds))) v = some (.ok (.full (.list ds))) := rfl
theorem kRes_tuple (ds : List PyData) (v : Bool) : kRes (some (.ret true (.tuple ds))) v = some (.ok (.full (.tuple ds))) := rfl
theorem kRes_false (d : PyData) : kRes (some (.ret false d)) true = some (.ok (.val false d)) := rfl
theorem kRes_exc (n : Str) (v : Bool) : kRes (some (.exc n)) v = some (.ex n) := rfl
def kD (o : Option PyData) (r : Option (List PyData)) : Option (List PyData) := match o with
  | some d => match r with
    | some ds => some (d :: ds)
    | none => none
  | none => none
theorem dats_nil : dats [] = some [] := rfl
theorem dats_cons (s : Sl) (ss : List Sl) : dats (s :: ss) = kD (dat s) (dats ss) := by
  rw [dats.eq_def]; rfl
theorem kD_some (d : PyData) (ds : List PyData) : kD (some d) (some ds) = some (d :: ds) := rfl
theorem isVal_val (fr : Bool) (d : PyData) : isVal (.val fr d) = true := rfl
theorem isVal_bor (fr : Bool) (d : List PyData) : isVal (.bor fr d) = false := rfl
theorem isVal_brf (d : PyData) : isVal (.brf d) = false := rfl
def kIsa (g : PyData → Bool) (o : Option Rs) : Option Rs := PL.bz o fun x => match dat x with
  | some d => some (.ok (.val true (.bool (g d))))
  | none => none
theorem ev_isa (g : PyData → Bool) (f : EF) (ρ : Ev) : eIsa g f ρ = kIsa g (f ρ) := rfl
theorem kIsa_val (g : PyData → Bool) (fr : Bool) (d : PyData) : kIsa g (some (.ok (.val fr d))) = some (.ok (.val true (.bool (g d)))) := rfl
theorem kIsa_own (g : PyData → Bool) (fr : Bool) (d : List PyData) : kIsa g (some (.ok (.own fr d))) = some (.ok (.val true (.bool (g (.list d))))) := rfl
theorem kIsa_bor (g : PyData → Bool) (fr : Bool) (d : List PyData) : kIsa g (some (.ok (.bor fr d))) = some (.ok (.val true (.bool (g (.list d))))) := rfl
theorem kIsa_full (g : PyData → Bool) (d : PyData) : kIsa g (some (.ok (.full d))) = some (.ok (.val true (.bool (g d)))) := rfl
theorem kIsa_brf (g : PyData → Bool) (d : PyData) : kIsa g (some (.ok (.brf d))) = some (.ok (.val true (.bool (g d)))) := rfl
def kAnd (o : Option Rs) (g : EF) (ρ : Ev) : Option Rs := PL.bz o fun x => match dat x with
  | some (.bool true) => g ρ
  | some (.bool false) => some (.ok (.val true (.bool false)))
  | _ => none
theorem ev_and (f g : EF) (ρ : Ev) : eAnd f g ρ = kAnd (f ρ) g ρ := rfl
def kAnd2 (b : Bool) (r : Option Rs) : Option Rs := if b then r else some (.ok (.val true (.bool false)))
theorem kAnd_val (fr b : Bool) (g : EF) (ρ : Ev) : kAnd (some (.ok (.val fr (.bool b)))) g ρ = kAnd2 b (g ρ) := by cases b <;> rfl
theorem kAnd2_true (r : Option Rs) : kAnd2 true r = r := rfl
theorem kAnd2_false (r : Option Rs) : kAnd2 false r = some (.ok (.val true (.bool false))) := rfl
theorem kAnd2_val (b b' : Bool) : kAnd2 b (some (.ok (.val true (.bool b')))) = some (.ok (.val true (.bool (b && b')))) := by cases b <;> rfl
def kOr (o : Option Rs) (g : EF) (ρ : Ev) : Option Rs := PL.bz o fun x => match dat x with
  | some (.bool false) => g ρ
  | some (.bool true) => some (.ok (.val true (.bool true)))
  | _ => none
theorem ev_or (f g : EF) (ρ : Ev) : eOr f g ρ = kOr (f ρ) g ρ := rfl
def kOr2 (b : Bool) (r : Option Rs) : Option Rs := if b then some (.ok (.val true (.bool true))) else r
theorem kOr_val (fr b : Bool) (g : EF) (ρ : Ev) : kOr (some (.ok (.val fr (.bool b)))) g ρ = kOr2 b (g ρ) := by cases b <;> rfl
theorem kOr2_true (r : Option Rs) : kOr2 true r = some (.ok (.val true (.bool true))) := rfl
theorem kOr2_false (r : Option Rs) : kOr2 false r = r := rfl
theorem kOr2_val (b b' : Bool) : kOr2 b (some (.ok (.val true (.bool b')))) = some (.ok (.val true (.bool (b || b')))) := by cases b <;> rfl
def kNot (o : Option Rs) : Option Rs := PL.bz o fun x => match dat x with
  | some (.bool b) => some (.ok (.val true (.bool (!b))))
  | _ => none
theorem ev_not (f : EF) (ρ : Ev) : eNot f ρ = kNot (f ρ) := rfl
theorem kNot_val (fr b : Bool) : kNot (some (.ok (.val fr (.bool b)))) = some (.ok (.val true (.bool (!b)))) := rfl
def kIfE (o : Option Rb) (f g : EF) (ρ : Ev) : Option Rs := match o with
  | some (.ok true) => f ρ
  | some (.ok false) => g ρ
  | some (.ex n) => some (.ex n)
  | none => none
theorem ev_ife (t : BF) (f g : EF) (ρ : Ev) : eIf t f g ρ = kIfE (t ρ) f g ρ := rfl
theorem kIfE_true (f g : EF) (ρ : Ev) : kIfE (some (.ok true)) f g ρ = f ρ := rfl
theorem kIfE_false (f g : EF) (ρ : Ev) : kIfE (some (.ok false)) f g ρ = g ρ := rfl
/-! tests -/
def kB (o : Option Rs) : Option Rb := match o with
  | some (.ok (.val _ (.bool b))) => some (.ok b)
  | some (.ex n) => some (.ex n)
  | _ => none
theorem ev_bof (f : EF) (ρ : Ev) : bOf f ρ = kB (f ρ) := by unfold bOf kB; rfl
theorem kB_val (fr b : Bool) : kB (some (.ok (.val fr (.bool b)))) = some (.ok b) := rfl
def kTo (o : Option Rs) : Option Rb := match o with
  | some (.ok s) => match dat (frz s) with
    | some d => okB (truth d)
    | none => none
  | some (.ex n) => some (.ex n)
  | none => none
theorem ev_tof (f : EF) (ρ : Ev) : tOf f ρ = kTo (f ρ) := by unfold tOf kTo; rfl
theorem kTo_val (fr : Bool) (d : PyData) : kTo (some (.ok (.val fr d))) = okB (truth d) := rfl
theorem kTo_own (fr : Bool) (d : List PyData) : kTo (some (.ok (.own fr d))) = okB (truth (.list d)) := rfl
theorem kTo_bor (fr : Bool) (d : List PyData) : kTo (some (.ok (.bor fr d))) = okB (truth (.list d)) := rfl
theorem kTo_full (d : PyData) : kTo (some (.ok (.full d))) = okB (truth d) := rfl
theorem kTo_brf (d : PyData) : kTo (some (.ok (.brf d))) = okB (truth d) := rfl
theorem okB_some (b : Bool) : okB (some b) = some (.ok b) := rfl
theorem truth_bool (b : Bool) : truth (.bool b) = some b := rfl
theorem truth_int (b : Int) : truth (.int b) = some (b != 0) := rfl
theorem truth_none : truth .none = some false := rfl
theorem truth_list (b : List PyData) : truth (.list b) = some (!b.isEmpty) := rfl
theorem truth_tuple (b : List PyData) : truth (.tuple b) = some (!b.isEmpty) := rfl
def kNotB (o : Option Rb) : Option Rb := match o with | some (.ok b) => some (.ok (!b)) | r => r
theorem ev_bnot (f : BF) (ρ : Ev) : bNot f ρ = kNotB (f ρ) := rfl
theorem kNotB_ok (b : Bool) : kNotB (some (.ok b)) = some (.ok (!b)) := rfl
def kAndB (o : Option Rb) (g : BF) (ρ : Ev) : Option Rb := match o with | some (.ok true) => g ρ | r => r
theorem ev_band (f g : BF) (ρ : Ev) : bAnd f g ρ = kAndB (f ρ) g ρ := rfl
def kAndB2 (b : Bool) (r : Option Rb) : Option Rb := if b then r else some (.ok false)
theorem kAndB_ok (b : Bool) (g : BF) (ρ : Ev) : kAndB (some (.ok b)) g ρ = kAndB2 b (g ρ) := by cases b <;> rfl
theorem kAndB2_true (r : Option Rb) : kAndB2 true r = r := rfl
theorem kAndB2_false (r : Option Rb) : kAndB2 false r = some (.ok false) := rfl
theorem kAndB2_ok (b b' : Bool) : kAndB2 b (some (.ok b')) = some (.ok (b && b')) := by cases b <;> rfl
def kOrB (o : Option Rb) (g : BF) (ρ : Ev) : Option Rb := match o with | some (.ok false) => g ρ | r => r
theorem ev_bor (f g : BF) (ρ : Ev) : bOr f g ρ = kOrB (f ρ) g ρ := rfl
def kOrB2 (b : Bool) (r : Option Rb) : Option Rb := if b then some (.ok true) else r
theorem kOrB_ok (b : Bool) (g : BF) (ρ : Ev) : kOrB (some (.ok b)) g ρ = kOrB2 b (g ρ) := by cases b <;> rfl
theorem kOrB2_true (r : Option Rb) : kOrB2 true r = some (.ok true) := rfl
theorem kOrB2_false (r : Option Rb) : kOrB2 false r = r := rfl
theorem kOrB2_ok (b b' : Bool) : kOrB2 b (some (.ok b')) = some (.ok (b || b')) := by cases b <;> rfl
/-! chains -/
def kCh (G G' : PyData → PyData → Option PyData) (a b : Option Rs) (k : EF) (ρ : Ev) : Option Rs := PL.bz a fun x => PL.bz b fun y => match fD G x y with
  | some (.val _ (.bool true)) => PL.bz (k ρ) fun z => okO (fD G' y z)
  | some (.val _ (.bool false)) => some (.ok (.val true (.bool false)))
  | _ => none
theorem ev_chain (G G' : PyData → PyData → Option PyData) (f g k : EF) (ρ : Ev) : eChain G G' f g k ρ = kCh G G' (f ρ) (g ρ) k ρ := by
  unfold eChain kCh; rfl
def kCh2 (o : Option Sl) (G' : PyData → PyData → Option PyData) (y : Sl) (z : Option Rs) : Option Rs := match o with
  | some (.val _ (.bool true)) => PL.bz z fun z => okO (fD G' y z)
  | some (.val _ (.bool false)) => some (.ok (.val true (.bool false)))
  | _ => none
theorem kCh_ok (G G' : PyData → PyData → Option PyData) (x y : Sl) (k : EF) (ρ : Ev) : kCh G G' (some (.ok x)) (some (.ok y)) k ρ = kCh2 (fD G (frz x) (frz y)) G' (frz y) (k ρ) := by
  unfold kCh kCh2; rfl
theorem kCh2_false (fr : Bool) (G' : PyData → PyData → Option PyData) (y : Sl) (z : Option Rs) : kCh2 (some (.val fr (.bool false))) G' y z = some (.ok (.val true (.bool false))) := rfl
theorem kCh2_true (fr : Bool) (G' : PyData → PyData → Option PyData) (y z : Sl) : kCh2 (some (.val fr (.bool true))) G' y (some (.ok z)) = okO (fD G' y (frz z)) := rfl
/-! data -/
def kS (o : Option PyData) : Option Sl := match o with | some r => if scal r = true then some (.val true r) else none | none => none
def kD2 (g : PyData → PyData → Option PyData) (a b : Option PyData) : Option Sl := match a with
  | some d => match b with
    | some e => kS (g d e)
    | none => none
  | none => none
theorem ev_fD (g : PyData → PyData → Option PyData) (x y : Sl) : fD g x y = kD2 g (dat x) (dat y) := by
  unfold fD kD2 kS; rfl
theorem kD2_some (g : PyData → PyData → Option PyData) (d e : PyData) : kD2 g (some d) (some e) = kS (g d e) := rfl
theorem kS_int (i : Int) : kS (some (.int i)) = some (.val true (.int i)) := rfl
theorem kS_bool (i : Bool) : kS (some (.bool i)) = some (.val true (.bool i)) := rfl
theorem kS_str (i : Str) : kS (some (.str i)) = some (.val true (.str i)) := rfl
theorem kS_none : kS (some .none) = some (.val true .none) := rfl
theorem ev_sub (i j : Int) : gSub (.int i) (.int j) = some (.int (i - j)) := rfl
theorem ev_addI (a b : Bool) (i j : Int) : fAdd (.val a (.int i)) (.val b (.int j)) = some (.val true (.int (i + j))) := rfl
theorem ev_iadd (i j : Int) : gI cT (· + ·) (.int i) (.int j) = some (.int (i + j)) := rfl
theorem ev_div (i j : Int) (h0 : 0 < j) (h : j < 1073741824) : gDiv (.int i) (.int j) = some (.int (i / j)) := by
  show (if cd (0 < j ∧ j < 1073741824) = true then _ else _) = _
  rw [if_pos (cd_true ⟨h0, h⟩)]
theorem ev_mod (i j : Int) (h0 : 0 < j) : gMod (.int i) (.int j) = some (.int (i % j)) := by
  show (if cd (0 < j) = true then _ else _) = _
  rw [if_pos (cd_true h0)]
theorem ev_pow (i j : Int) (h : 0 ≤ j) (h' : j ≤ 1000000) (h2 : i.natAbs < 18446744073709551616) : gPow (.int i) (.int j) = some (.int (i ^ j.toNat)) := by
  show (if cd (0 ≤ j ∧ j ≤ 1000000 ∧ i.natAbs < 18446744073709551616) = true then _ else _) = _
  rw [if_pos (cd_true ⟨h, h', h2⟩)]
theorem ev_mulI (a b : Bool) (i j : Int) (h : cMul i j = true) : fMul (.val a (.int i)) (.val b (.int j)) = some (.val true (.int (i * j))) := by
  have e : fMul (.val a (.int i)) (.val b (.int j)) = kS (gMulS (.int i) (.int j)) := rfl
  have e2 : gMulS (.int i) (.int j) = if cMul i j = true then some (.int (i * j)) else none := rfl
  rw [e, e2, if_pos h]; rfl
theorem cMul1 {i j : Int} (h1 : -(18446744073709551616) < i) (h2 : i < 18446744073709551616) : cMul i j = true := by
  unfold cMul; rw [cd_true ⟨h1, h2⟩]; rfl
theorem cMul2 {i j : Int} (h1 : -(18446744073709551616) < j) (h2 : j < 18446744073709551616) : cMul i j = true := by
  have := cd_true (p := -(18446744073709551616) < j ∧ j < 18446744073709551616) ⟨h1, h2⟩
  unfold cMul; rw [this, Bool.or_true]
theorem ev_neg (a : Bool) (i : Int) : fNeg (.val a (.int i)) = some (.val true (.int (-i))) := rfl
theorem ev_eqI (i j : Int) : gEq (.int i) (.int j) = some (.bool (cd (i = j))) := rfl
theorem ev_neI (i j : Int) : gNe (.int i) (.int j) = some (.bool (!cd (i = j))) := rfl
theorem ev_ltI (i j : Int) : gLt (.int i) (.int j) = some (.bool (cd (i < j))) := rfl
theorem ev_leI (i j : Int) : gLe (.int i) (.int j) = some (.bool (cd (i ≤ j))) := rfl
theorem ev_gtI (i j : Int) : gGt (.int i) (.int j) = some (.bool (cd (j < i))) := rfl
theorem ev_geI (i j : Int) : gGe (.int i) (.int j) = some (.bool (cd (j ≤ i))) := rfl
theorem fD1_1 (g : PyData → Option PyData) (s : Sl) : fD1 g [s] = match dat s with | some d => kS (g d) | none => none := by
  unfold fD1 kS; rfl
theorem ev_d1 (g : PyData → Option PyData) (s : Sl) (d : PyData) (h : dat s = some d) : fD1 g [s] = kS (g d) := by
  rw [fD1_1, h]
def kD1 (g : PyData → Option PyData) (o : Option PyData) : Option Sl := match o with | some d => kS (g d) | none => none
theorem ev_fD1 (g : PyData → Option PyData) (s : Sl) : fD1 g [s] = kD1 g (dat s) := fD1_1 g s
theorem kD1_some (g : PyData → Option PyData) (d : PyData) : kD1 g (some d) = kS (g d) := rfl
theorem ev_int (i : Int) : gInt (.int i) = some (.int i) := rfl
theorem ev_intb (i : Bool) : gInt (.bool i) = some (.int (if i then 1 else 0)) := rfl
theorem ev_abs (i : Int) : gAbs (.int i) = some (.int (if i < 0 then -i else i)) := rfl
theorem ev_lenL (ds : List PyData) : gLen (.list ds) = some (.int ds.length) := rfl
theorem ev_lenT (ds : List PyData) : gLen (.tuple ds) = some (.int ds.length) := rfl
theorem ev_fI2 (h : Int → Int → Int) (a b : Bool) (i j : Int) : fI2 h [.val a (.int i), .val b (.int j)] = some (.val true (.int (h i j))) := rfl
theorem ev_catVV (a b : Bool) (d e : List PyData) (h : d.length + e.length ≤ 16777216) : fAdd (.val a (.list d)) (.val b (.list e)) = some (.own ((a || d.all PL.scal) && (b || e.all PL.scal)) (d ++ e)) := by
  show (if _ then _ else _) = _
  rw [if_pos h]
theorem ev_repV (a b : Bool) (d : List PyData) (k : Int) (h : -(9223372036854775808) ≤ k) (h1 : k < 9223372036854775808) (h2 : d.length * k.toNat ≤ 16777216) : fMul (.val a (.list d)) (.val b (.int k)) = some (.own (a || d.all PL.scal) (List.replicate k.toNat d).flatten) := by
  show (if cd _ = true then _ else _) = _
  rw [if_pos (cd_true ⟨h, h1, h2⟩)]
/-! lists and tuples made -/
def kLst (r : Option Ra) : Option Rs := PL.bzs r fun ss => match PL.stors ss with
  | some (fr, ds) => if ds.length ≤ 16777216 then some (.ok (.own fr ds)) else none
  | none => none
theorem ev_list (fs : List EF) (ρ : Ev) : eList fs ρ = kLst (evs fs ρ) := rfl
def kMk (o : Option (Bool × List PyData)) : Option Rs := match o with
  | some (fr, ds) => if ds.length ≤ 16777216 then some (.ok (.own fr ds)) else none
  | none => none
theorem kLst_ok (ss : List Sl) : kLst (some (.ok ss)) = kMk (PL.stors ss) := rfl
def kTup (r : Option Ra) : Option Rs := PL.bzs r fun ss => match PL.stors ss with
  | some (fr, ds) => if ds.length ≤ 16777216 then some (.ok (.val fr (.tuple ds))) else none
  | none => none
theorem ev_tup (fs : List EF) (ρ : Ev) : eTup fs ρ = kTup (evs fs ρ) := rfl
def kMkT (o : Option (Bool × List PyData)) : Option Rs := match o with
  | some (fr, ds) => if ds.length ≤ 16777216 then some (.ok (.val fr (.tuple ds))) else none
  | none => none
theorem kTup_ok (ss : List Sl) : kTup (some (.ok ss)) = kMkT (PL.stors ss) := rfl
theorem kMk_some (fr : Bool) (ds : List PyData) (h : ds.length ≤ 16777216) : kMk (some (fr, ds)) = some (.ok (.own fr ds)) := by
  show (if _ then _ else _) = _
  rw [if_pos h]
theorem kMkT_some (fr : Bool) (ds : List PyData) (h : ds.length ≤ 16777216) : kMkT (some (fr, ds)) = some (.ok (.val fr (.tuple ds))) := by
  show (if _ then _ else _) = _
  rw [if_pos h]
def kSt (o : Option (Bool × PyData)) (r : Option (Bool × List PyData)) : Option (Bool × List PyData) := match o with
  | some (f, d) => match r with
    | some (g, ds) => some (f && g, d :: ds)
    | none => none
  | none => none
theorem stors_nil : PL.stors [] = some (true, []) := rfl
theorem stors_cons (s : Sl) (ss : List Sl) : PL.stors (s :: ss) = kSt (stor s) (PL.stors ss) := by
  rw [PL.stors.eq_def]; rfl
theorem kSt_some (f g : Bool) (d : PyData) (ds : List PyData) : kSt (some (f, d)) (some (g, ds)) = some (f && g, d :: ds) := rfl
theorem stor_val (fr : Bool) (d : PyData) : stor (.val fr d) = some (fr || scal d, d) := rfl
/-! subscripts -/
theorem ev_ixL (a b : Bool) (ds : List PyData) (i : Int) : fIx (.val a (.list ds)) (.val b (.int i)) = (atI ds i).map (mkv a) := rfl
theorem ev_ixT (a b : Bool) (ds : List PyData) (i : Int) : fIx (.val a (.tuple ds)) (.val b (.int i)) = (atI ds i).map (mkv a) := rfl
theorem ev_ixB (a b : Bool) (ds : List PyData) (i : Int) : fIx (.bor a ds) (.val b (.int i)) = (atI ds i).map (mkv a) := rfl
theorem atI_cast {α : Type} (xs : List α) (n : Nat) : atI xs (n : Int) = xs[n]? := by
  unfold atI ixN
  rw [if_pos (by omega)]
  by_cases h : (n : Int) < xs.length
  · rw [if_pos h, Int.toNat_natCast]; rfl
  · rw [if_neg h, List.getElem?_eq_none (by omega)]; rfl
theorem atI_0 {α : Type} (xs : List α) : atI xs 0 = xs[0]? := atI_cast xs 0
theorem atI_1 {α : Type} (xs : List α) : atI xs 1 = xs[1]? := atI_cast xs 1
theorem atI_2 {α : Type} (xs : List α) : atI xs 2 = xs[2]? := atI_cast xs 2
theorem atI_3 {α : Type} (xs : List α) : atI xs 3 = xs[3]? := atI_cast xs 3
theorem atI_4 {α : Type} (xs : List α) : atI xs 4 = xs[4]? := atI_cast xs 4
theorem atI_5 {α : Type} (xs : List α) : atI xs 5 = xs[5]? := atI_cast xs 5
theorem atI_6 {α : Type} (xs : List α) : atI xs 6 = xs[6]? := atI_cast xs 6
theorem atI_7 {α : Type} (xs : List α) : atI xs 7 = xs[7]? := atI_cast xs 7
def kSl (a : Option Rs) (lo hi : Option Rp) : Option Rs := PL.bz a fun x => PL.bp lo fun l => PL.bp hi fun h => match lstD x with
  | some (fr, ds) => some (.ok (.own fr (cutD ds l h)))
  | none => none
theorem ev_slice (f : EF) (lo hi : PF) (ρ : Ev) : eSl f lo hi ρ = kSl (f ρ) (lo ρ) (hi ρ) := rfl
theorem kSl_val (fr : Bool) (ds : List PyData) (l h : Option Int) : kSl (some (.ok (.val fr (.list ds)))) (some (.ok l)) (some (.ok h)) = some (.ok (.own (fr || ds.all PL.scal) (cutD ds l h))) := rfl
theorem kSl_own (fr : Bool) (ds : List PyData) (l h : Option Int) : kSl (some (.ok (.own fr ds))) (some (.ok l)) (some (.ok h)) = some (.ok (.own (fr || ds.all PL.scal) (cutD ds l h))) := rfl
theorem kSl_bor (fr : Bool) (ds : List PyData) (l h : Option Int) : kSl (some (.ok (.bor fr ds))) (some (.ok l)) (some (.ok h)) = some (.ok (.own (fr || ds.all PL.scal) (cutD ds l h))) := rfl
theorem kSl_full (ds : List PyData) (l h : Option Int) : kSl (some (.ok (.full (.list ds)))) (some (.ok l)) (some (.ok h)) = some (.ok (.own true (cutD ds l h))) := rfl
theorem ev_pN (ρ : Ev) : pN ρ = some (.ok none) := rfl
def kP (o : Option Rs) : Option Rp := match o with
  | some (.ok s) => match dat (frz s) with
    | some (.int i) => some (.ok (some i))
    | _ => none
  | some (.ex n) => some (.ex n)
  | none => none
theorem ev_pS (f : EF) (ρ : Ev) : pS f ρ = kP (f ρ) := by unfold pS kP; rfl
theorem kP_int (fr : Bool) (i : Int) : kP (some (.ok (.val fr (.int i)))) = some (.ok (some i)) := rfl
theorem ev_rev (fr : Bool) (ds : List PyData) : fRev (.val fr (.list ds)) = some (.own (fr || ds.all PL.scal) ds.reverse) := rfl
theorem ev_ls (fr : Bool) (ds : List PyData) : fLs [.val fr (.list ds)] = some (.own (fr || ds.all PL.scal) ds) := rfl
theorem ev_lsT (fr : Bool) (ds : List PyData) : fLs [.val fr (.tuple ds)] = some (.own fr ds) := rfl
theorem ev_tl (fr : Bool) (ds : List PyData) : fTl [.val fr (.list ds)] = some (.val (fr || ds.all PL.scal) (.tuple ds)) := rfl
theorem all_scal (xs : List Int) : (xs.map PyData.int).all PL.scal = true := by
  rw [List.all_map, List.all_eq_true]; intro x _; rfl
def kSo (fr : Bool) (o : Option (List PyData)) : Option Sl := o.map fun ds' => .own fr ds'
theorem ev_sorted (fr : Bool) (ds : List PyData) : fSorted [.val fr (.list ds)] = kSo (fr || ds.all PL.scal) (gSorted ds) := rfl
theorem kSo_some (fr : Bool) (ds : List PyData) : kSo fr (some ds) = some (.own fr ds) := rfl
/-! what is walked -/
def kIL (o : Option Rs) : Option Ri := match o with
  | some (.ok s) => match frz s with
    | .val fr (.list ds) => some (.ok (ds.map (mkv fr)))
    | _ => none
  | some (.ex n) => some (.ex n)
  | none => none
theorem ev_iL (f : EF) (ρ : Ev) : iL f ρ = kIL (f ρ) := by unfold iL kIL; rfl
theorem kIL_val (fr : Bool) (ds : List PyData) : kIL (some (.ok (.val fr (.list ds)))) = some (.ok (ds.map (mkv fr))) := rfl
theorem kIL_own (fr : Bool) (ds : List PyData) : kIL (some (.ok (.own fr ds))) = some (.ok (ds.map (mkv fr))) := rfl
theorem kIL_full (ds : List PyData) : kIL (some (.ok (.full (.list ds)))) = some (.ok (ds.map (mkv true))) := rfl
noncomputable def kR (r : Option Ra) : Option Ri := match r with
  | some (.ok ss) => match ss.map dat with
    | [some (.int j)] => if small62 j = true then some (.ok (rngI 0 j)) else none
    | [some (.int i), some (.int j)] => if small62 i = true ∧ small62 j = true then some (.ok (rngI i j)) else none
    | _ => none
  | some (.ex n) => some (.ex n)
  | none => none
theorem ev_iR (fs : List EF) (ρ : Ev) : iR fs ρ = kR (evs fs ρ) := by unfold iR kR; rfl
theorem kR_1 (a : Bool) (j : Int) (h : small62 j = true) : kR (some (.ok [.val a (.int j)])) = some (.ok (rngI 0 j)) := by
  show (if _ then _ else _) = _
  rw [if_pos h]
theorem kR_2 (a b : Bool) (i j : Int) (h : small62 i = true) (h' : small62 j = true) : kR (some (.ok [.val a (.int i), .val b (.int j)])) = some (.ok (rngI i j)) := by
  show (if _ then _ else _) = _
  rw [if_pos ⟨h, h'⟩]
theorem small62_ok {i : Int} (h : -4611686018427387904 ≤ i) (h' : i < 4611686018427387904) : small62 i = true := cd_true ⟨h, h'⟩
def mkI (i : Int) : Sl := .val true (.int i)
theorem map_mkv_int (fr : Bool) (l : List Int) : (l.map PyData.int).map (mkv fr) = l.map mkI := by
  rw [List.map_map]; exact List.map_congr_left fun a _ => mkv_int fr a
theorem mkI_eq (i : Int) : mkI i = .val true (.int i) := rfl
def mkN (lo : Int) (i : Nat) : Sl := .val true (.int (lo + (i : Int)))
theorem rngI_eq (lo hi : Int) : rngI lo hi = (List.range (hi - lo).toNat).map (mkN lo) := rfl
theorem mkN_eq (lo : Int) (i : Nat) : mkN lo i = .val true (.int (lo + (i : Int))) := rfl
noncomputable def kR3 (r : Option Ra) : Option Ri := match r with
  | some (.ok ss) => match ss.map dat with
    | [some (.int i), some (.int j), some (.int c)] => if cd (c ≠ 0 ∧ c.natAbs < 1073741824 ∧ Builtin.Range.small i j c = true) = true then some (.ok (rngC i c (rN i j c))) else none
    | _ => none
  | some (.ex n) => some (.ex n)
  | none => none
theorem ev_iR3 (fs : List EF) (ρ : Ev) : iR3 fs ρ = kR3 (evs fs ρ) := by unfold iR3 kR3; rfl
theorem kR3_ok (a b b' : Bool) (i j c : Int) (h : c ≠ 0 ∧ c.natAbs < 1073741824 ∧ Builtin.Range.small i j c = true) : kR3 (some (.ok [.val a (.int i), .val b (.int j), .val b' (.int c)])) = some (.ok (rngC i c (rN i j c))) := by
  show (if _ then _ else _) = _
  rw [if_pos (cd_true h)]
def mkC (lo c : Int) (i : Nat) : Sl := .val true (.int (lo + (i : Int) * c))
theorem rngC_eq (lo c : Int) (n : Nat) : rngC lo c n = (List.range n).map (mkC lo c) := rfl
theorem mkC_eq (lo c : Int) (i : Nat) : mkC lo c i = .val true (.int (lo + (i : Int) * c)) := rfl
def kM (mk : Sl → Option (List Sl)) (o : Option Rs) : Option Ri := match o with
  | some (.ok s) => match mk (frz s) with
    | some its => some (.ok its)
    | none => none
  | some (.ex n) => some (.ex n)
  | none => none
theorem ev_iM (mk : Sl → Option (List Sl)) (f : EF) (ρ : Ev) : iM mk f ρ = kM mk (f ρ) := by unfold iM kM; rfl
def kM2 (o : Option (List Sl)) : Option Ri := match o with | some its => some (.ok its) | none => none
theorem kM_ok (mk : Sl → Option (List Sl)) (s : Sl) : kM mk (some (.ok s)) = kM2 (mk (frz s)) := by unfold kM kM2; rfl
theorem kM2_some (its : List Sl) : kM2 (some its) = some (.ok its) := rfl
theorem mkEn_val (fr : Bool) (ds : List PyData) : mkEn (.val fr (.list ds)) = some (enI fr 0 ds) := rfl
theorem mkTp_val (fr : Bool) (ds : List PyData) : mkTp (.val fr (.tuple ds)) = some (ds.map (mkv fr)) := rfl
def kZp (o : Option Rs) (g : EF) (ρ : Ev) : Option Ri := match o with
  | some (.ok s) => iM (mkZp (frz s)) g ρ
  | some (.ex n) => some (.ex n)
  | none => none
theorem ev_iZp (f g : EF) (ρ : Ev) : iZp f g ρ = kZp (f ρ) g ρ := by unfold iZp kZp; rfl
theorem kZp_ok (s : Sl) (g : EF) (ρ : Ev) : kZp (some (.ok s)) g ρ = iM (mkZp (frz s)) g ρ := rfl
theorem mkZp_val (a b : Bool) (ds es : List PyData) : mkZp (.val a (.list ds)) (.val b (.list es)) = some (zpI (a && b) ds es) := rfl
/-! comprehensions -/
def kLc (o : Option Ri) (own : List Nat) (t : GF) (tt : BF) (elt : EF) (ρ : Ev) : Option Rs := match o with
  | some (.ok its) => match lcL t tt elt (wipeE ρ own) its with
    | some (fr, ds) => if ds.length ≤ 16777216 then some (.ok (.own fr ds)) else none
    | none => none
  | some (.ex n) => some (.ex n)
  | none => none
theorem ev_lc (g : IF) (own : List Nat) (t : GF) (tt : BF) (elt : EF) (ρ : Ev) : eLc g own t tt elt ρ = kLc (g ρ) own t tt elt ρ := by unfold eLc kLc; rfl
def kLcM (o : Option (Bool × List PyData)) : Option Rs := match o with
  | some (fr, ds) => if ds.length ≤ 16777216 then some (.ok (.own fr ds)) else none
  | none => none
theorem kLc_ok (its : List Sl) (own : List Nat) (t : GF) (tt : BF) (elt : EF) (ρ : Ev) : kLc (some (.ok its)) own t tt elt ρ = kLcM (lcL t tt elt (wipeE ρ own) its) := rfl
theorem kLcM_some (fr : Bool) (ds : List PyData) (h : ds.length ≤ 16777216) : kLcM (some (fr, ds)) = some (.ok (.own fr ds)) := by
  show (if _ then _ else _) = _
  rw [if_pos h]
theorem wipeE_nil (ρ : Ev) : wipeE ρ [] = ρ := rfl
theorem wipeE_cons (ρ : Ev) (i : Nat) (r : List Nat) : wipeE ρ (i :: r) = (wipeE ρ r).set i .und := rfl
theorem ev_byes (ρ : Ev) : bYes ρ = some (.ok true) := rfl
def kE (o : Option Rs) : Option (Bool × PyData) := match o with | some (.ok x) => stor (frz x) | _ => none
theorem kE_val (fr : Bool) (d : PyData) : kE (some (.ok (.val fr d))) = some (fr || scal d, d) := rfl
theorem kE_own (fr : Bool) (d : List PyData) : kE (some (.ok (.own fr d))) = some (fr, .list d) := by cases fr <;> rfl
theorem kE_full (d : PyData) : kE (some (.ok (.full d))) = some (true, d) := rfl
def kEl (o : Option Ev) (elt : EF) : Option (Bool × PyData) := match o with | some ρ1 => kE (elt ρ1) | none => none
theorem kEl_some (ρ : Ev) (elt : EF) : kEl (some ρ) elt = kE (elt ρ) := rfl
def kTl (o : Option Ev) (tt : BF) : Option Rb := match o with | some ρ1 => tt ρ1 | none => none
theorem kTl_some (ρ : Ev) (tt : BF) : kTl (some ρ) tt = tt ρ := rfl
theorem kEl_ok {o : Option Ev} {elt : EF} {f : Bool} {d : PyData} (h : kEl o elt = some (f, d)) : ∃ ρ1 x, o = some ρ1 ∧ elt ρ1 = some (.ok x) ∧ stor (frz x) = some (f, d) := by
  cases o with
  | none => cases h
  | some ρ1 =>
    have h' : kE (elt ρ1) = some (f, d) := h
    cases he : elt ρ1 with
    | none => rw [he] at h'; cases h'
    | some o =>
      rw [he] at h'
      cases o with
      | ex n => cases h'
      | ok x => exact ⟨ρ1, x, rfl, he, h'⟩
/-- one item -/
theorem lcL_cons {t : GF} {tt : BF} {elt : EF} {ρ : Ev} {s : Sl} {ss : List Sl} {g : Bool} {ds : List PyData} {d : PyData} (h1 : kTl (t s ρ) tt = some (.ok true)) (h2 : kEl (t s ρ) elt = some (true, d)) (h3 : lcL t tt elt ρ ss = some (g, ds)) : lcL t tt elt ρ (s :: ss) = some (g, d :: ds) := by
  obtain ⟨ρ1, x, e1, e2, e3⟩ := kEl_ok h2
  have h1' : tt ρ1 = some (.ok true) := by rw [e1] at h1; exact h1
  rw [lcL, e1]
  dsimp only
  rw [h1']
  dsimp only
  rw [e2]
  dsimp only
  rw [e3, h3]
  rfl
theorem lcL_skip {t : GF} {tt : BF} {elt : EF} {ρ : Ev} {s : Sl} {ss : List Sl} (h1 : kTl (t s ρ) tt = some (.ok false)) : lcL t tt elt ρ (s :: ss) = lcL t tt elt ρ ss := by
  rw [lcL]
  cases e : t s ρ with
  | none => rw [e] at h1; cases h1
  | some ρ1 =>
    rw [e] at h1
    dsimp only
    rw [show tt ρ1 = some (.ok false) from h1]
theorem bYes_el {o : Option Ev} {elt : EF} {f : Bool} {d : PyData} (h : kEl o elt = some (f, d)) : kTl o bYes = some (.ok true) := by
  obtain ⟨ρ1, x, e1, e2, e3⟩ := kEl_ok h
  rw [e1]; rfl
/-- no test -/
theorem lcL_map {α : Type} {t : GF} {elt : EF} {ρ : Ev} {mk : α → Sl} {r : α → PyData} : ∀ (l : List α), (∀ a ∈ l, kEl (t (mk a) ρ) elt = some (true, r a)) → lcL t bYes elt ρ (l.map mk) = some (true, l.map r)
  | [], _ => rfl
  | a :: l, h => lcL_cons (bYes_el (h a List.mem_cons_self)) (h a List.mem_cons_self) (lcL_map l fun b hb => h b (List.mem_cons_of_mem _ hb))
/-- with a test -/
theorem lcL_filter {α : Type} {t : GF} {tt : BF} {elt : EF} {ρ : Ev} {mk : α → Sl} {p : α → Bool} {r : α → PyData} : ∀ (l : List α), (∀ a ∈ l, kTl (t (mk a) ρ) tt = some (.ok (p a)) ∧ (p a = true → kEl (t (mk a) ρ) elt = some (true, r a))) → lcL t tt elt ρ (l.map mk) = some (true, (l.filter p).map r)
  | [], _ => rfl
  | a :: l, h => by
    obtain ⟨h1, h2⟩ := h a List.mem_cons_self
    have ih := lcL_filter (t := t) (tt := tt) (elt := elt) (ρ := ρ) (mk := mk) (p := p) (r := r) l fun b hb => h b (List.mem_cons_of_mem _ hb)
    rw [List.map_cons, List.filter_cons]
    cases hp : p a with
    | false => rw [hp] at h1; rw [lcL_skip h1]; exact ih
    | true => rw [hp] at h1; rw [if_pos rfl]; exact lcL_cons h1 (h2 hp) ih
theorem lcL_ints {α : Type} {t : GF} {elt : EF} {ρ : Ev} {mk : α → Sl} {Q : Int → Prop} : ∀ (l : List α), (∀ a ∈ l, ∃ i, kEl (t (mk a) ρ) elt = some (true, .int i) ∧ Q i) → ∃ is : List Int, lcL t bYes elt ρ (l.map mk) = some (true, is.map .int) ∧ is.length = l.length ∧ ∀ i ∈ is, Q i
  | [], _ => ⟨[], rfl, rfl, fun _ h => by cases h⟩
  | a :: l, h => by
    obtain ⟨i, h1, h3⟩ := h a List.mem_cons_self
    obtain ⟨is, e1, e2, e3⟩ := lcL_ints (t := t) (elt := elt) (ρ := ρ) (mk := mk) (Q := Q) l fun b hb => h b (List.mem_cons_of_mem _ hb)
    refine ⟨i :: is, lcL_cons (bYes_el h1) h1 e1, by rw [List.length_cons, List.length_cons, e2], fun j hj => ?_⟩
    rcases List.mem_cons.mp hj with e | e
    · rw [e]; exact h3
    · exact e3 j e
end PL

/-! PL12: measures of data: when repr and == go through. -/
namespace PL
open PySem PySem.Spec PyProof.Rows L2

theorem small_up {a b c : Int} (hc : 0 < c) (hc' : c < 1073741824) (ha : -(2 ^ 61) ≤ a) (ha' : a < 2 ^ 61) (hb : -(2 ^ 61) ≤ b) (hb' : b < 2 ^ 61) : c ≠ 0 ∧ c.natAbs < 1073741824 ∧ Builtin.Range.small a b c = true := by
  refine ⟨by omega, by omega, ?_⟩
  unfold Builtin.Range.small
  have h0 := rs_nonneg a b c
  have h1 : Builtin.Range.rangeSize a b c ≤ 2 ^ 62 := by
    unfold Builtin.Range.rangeSize
    rw [if_pos hc]
    split
    · have := Int.ediv_le_self (a := b - a - 1) c (by omega); omega
    · decide
  simp only [Builtin.Range.rangeFitsLong, Bool.and_eq_true, Bool.or_eq_true, decide_eq_true_eq, beq_iff_eq, if_pos hc]
  refine ⟨⟨⟨⟨?_, ?_⟩, ?_, ?_⟩, ?_, ?_⟩, .inr ?_⟩
  all_goals omega
mutual
/-- small ints, plain texts -/
def okR : PyData → Bool
  | .none => true
  | .bool _ => true
  | .int i => decide (i.natAbs < 1000000000000)
  | .str x => x.cps.toList.all fun c => decide (c < 16 ^ 8)
  | .list xs => okRs xs
  | .tuple xs => okRs xs
  | .dict _ => false
def okRs : List PyData → Bool
  | [] => true
  | x :: xs => okR x && okRs xs
end
mutual
/-- how many -/
def nn : PyData → Nat
  | .none => 1
  | .bool _ => 1
  | .int _ => 41
  | .str x => x.cps.size + 1
  | .list xs => nns xs + 1
  | .tuple xs => nns xs + 1
  | .dict _ => 1
def nns : List PyData → Nat
  | [] => 0
  | x :: xs => nn x + 1 + nns xs
end
mutual
theorem okR_plain : ∀ d : PyData, okR d = true → d.plain = true
  | .none, _ => rfl
  | .bool _, _ => rfl
  | .int _, _ => rfl
  | .str _, _ => rfl
  | .list xs, h => by simp only [okR] at h; simp only [PyData.plain]; exact okRs_plain xs h
  | .tuple xs, h => by simp only [okR] at h; simp only [PyData.plain]; exact okRs_plain xs h
  | .dict _, h => by simp only [okR] at h; cases h
theorem okRs_plain : ∀ ds : List PyData, okRs ds = true → PyData.plainAll ds = true
  | [], _ => by simp only [PyData.plainAll]
  | d :: ds, h => by
    simp only [okRs, Bool.and_eq_true] at h
    simp only [PyData.plainAll, Bool.and_eq_true]
    exact ⟨okR_plain d h.1, okRs_plain ds h.2⟩
end
mutual
theorem okR_leaves : ∀ d : PyData, okR d = true → d.leavesShort 13 = true
  | .none, _ => rfl
  | .bool _, _ => rfl
  | .int i, h => by
    simp only [okR, decide_eq_true_eq] at h
    simp only [PyData.leavesShort, decide_eq_true_eq]
    exact PyData.shown_int_le (by
      have : (10 : Nat) ^ 12 = 1000000000000 := by decide
      rw [this]; exact h)
  | .str x, h => by simp only [okR] at h; simp only [PyData.leavesShort]; exact h
  | .list xs, h => by simp only [okR] at h; simp only [PyData.leavesShort]; exact okRs_leaves xs h
  | .tuple xs, h => by simp only [okR] at h; simp only [PyData.leavesShort]; exact okRs_leaves xs h
  | .dict _, h => by simp only [okR] at h; cases h
theorem okRs_leaves : ∀ ds : List PyData, okRs ds = true → PyData.leavesShortAll 13 ds = true
  | [], _ => by simp only [PyData.leavesShortAll]
  | d :: ds, h => by
    simp only [okRs, Bool.and_eq_true] at h
    simp only [PyData.leavesShortAll, Bool.and_eq_true]
    exact ⟨okR_leaves d h.1, okRs_leaves ds h.2⟩
end
theorem log40 {n : Nat} (h : n < 1000000000000) : n.log2 < 40 := by
  rcases Nat.eq_zero_or_pos n with e | e
  · rw [e]; decide
  · exact (Nat.log2_lt (by omega)).mpr (Nat.lt_trans h (by decide))
mutual
theorem okR_show : ∀ d : PyData, okR d = true → d.showable = true
  | .none, _ => rfl
  | .bool _, _ => rfl
  | .int i, h => by
    simp only [okR, decide_eq_true_eq] at h
    simp only [PyData.showable, decide_eq_true_eq]
    have := log40 h
    omega
  | .str _, _ => rfl
  | .list xs, h => by simp only [okR] at h; simp only [PyData.showable]; exact okRs_show xs h
  | .tuple xs, h => by simp only [okR] at h; simp only [PyData.showable]; exact okRs_show xs h
  | .dict _, h => by simp only [okR] at h; cases h
theorem okRs_show : ∀ ds : List PyData, okRs ds = true → PyData.showableAll ds = true
  | [], _ => by simp only [PyData.showableAll]
  | d :: ds, h => by
    simp only [okRs, Bool.and_eq_true] at h
    simp only [PyData.showableAll, Bool.and_eq_true]
    exact ⟨okR_show d h.1, okRs_show ds h.2⟩
end
mutual
theorem okR_weight : ∀ d : PyData, okR d = true → d.weight ≤ nn d
  | .none, _ => by simp only [PyData.weight, nn]; omega
  | .bool _, _ => by simp only [PyData.weight, nn]; omega
  | .int i, h => by
    simp only [okR, decide_eq_true_eq] at h
    simp only [PyData.weight, nn]
    have := log40 h
    split <;> omega
  | .str x, _ => by simp only [PyData.weight, nn]; omega
  | .list xs, h => by simp only [okR] at h; simp only [PyData.weight, nn]; have := okRs_weight xs h; omega
  | .tuple xs, h => by simp only [okR] at h; simp only [PyData.weight, nn]; have := okRs_weight xs h; omega
  | .dict _, h => by simp only [okR] at h; cases h
theorem okRs_weight : ∀ ds : List PyData, okRs ds = true → PyData.weightAll ds ≤ nns ds
  | [], _ => by simp only [PyData.weightAll, nns]; omega
  | d :: ds, h => by
    simp only [okRs, Bool.and_eq_true] at h
    simp only [PyData.weightAll, nns]
    have h1 := okR_weight d h.1
    have h2 := okRs_weight ds h.2
    omega
end
theorem gRepr_ok {d : PyData} (h : okR d = true) (hn : nn d ≤ 1048576) (hd : d.depth ≤ 60) : gRepr d = some (.str d.shown) := by
  unfold gRepr
  have h1 := PyData.shown_fits (B := 13) (by decide) (by decide) (okR_leaves d h) (by have := okR_weight d h; omega)
  rw [sizeLine_eq] at h1
  rw [if_pos ⟨okR_show d h, hd, h1⟩]
theorem okRs_ints {xs : List Int} (h : ∀ x ∈ xs, x.natAbs < 1000000000000) : okRs (xs.map .int) = true := by
  induction xs with
  | nil => rfl
  | cons x xs ih =>
    rw [List.map_cons, okRs, okR, Bool.and_eq_true]
    exact ⟨decide_eq_true (h x List.mem_cons_self), ih fun y hy => h y (List.mem_cons_of_mem _ hy)⟩
theorem nns_ints (xs : List Int) : nns (xs.map .int) = 42 * xs.length := by
  induction xs with
  | nil => rfl
  | cons x xs ih => rw [List.map_cons, nns, nn, ih, List.length_cons]; omega
theorem depths_ints (xs : List Int) : PyData.depthAll (xs.map .int) = 0 := PySem.W.depth_ints xs
theorem eqv_self {d : PyData} (h : d.plain = true) : PyData.eqv d d = true := PySem.SeqAt.eqv_refl_plain d h
def isI : PyData → Bool
  | .int _ => true
  | _ => false
theorem gNe_n {d e : PyData} (h : isI d = false) : gNe d e = if d.depth ≤ 60 then some (.bool (!PyData.eqv d e)) else none := by
  cases d <;> first | rfl | cases h
theorem gEq_n {d e : PyData} (h : isI d = false) : gEq d e = if d.depth ≤ 60 then some (.bool (PyData.eqv d e)) else none := by
  cases d <;> first | rfl | cases h
theorem gNe_self {d : PyData} (h : d.plain = true) (hd : d.depth ≤ 60) : gNe d d = some (.bool false) := by
  cases hi : isI d with
  | false => rw [gNe_n hi, if_pos hd, eqv_self h]; rfl
  | true =>
    cases d <;> first | cases hi | skip
    show some (PyData.bool (!cd _)) = _
    rw [cd_true rfl]; rfl
theorem gEq_self {d : PyData} (h : d.plain = true) (hd : d.depth ≤ 60) : gEq d d = some (.bool true) := by
  cases hi : isI d with
  | false => rw [gEq_n hi, if_pos hd, eqv_self h]
  | true =>
    cases d <;> first | cases hi | skip
    show some (PyData.bool (cd _)) = _
    rw [cd_true rfl]
theorem plain_ints (xs : List Int) : PyData.plainAll (xs.map .int) = true := by
  induction xs with
  | nil => simp only [List.map_nil, PyData.plainAll]
  | cons x xs ih => rw [List.map_cons]; simp only [PyData.plainAll, ih, PyData.plain, Bool.and_self]
theorem gNe_ints (xs : List Int) : gNe (.list (xs.map .int)) (.list (xs.map .int)) = some (.bool false) := gNe_self (by simp only [PyData.plain]; exact plain_ints xs) (by simp only [PyData.depth, depths_ints]; omega)
theorem gEq_ints (xs : List Int) : gEq (.list (xs.map .int)) (.list (xs.map .int)) = some (.bool true) := gEq_self (by simp only [PyData.plain]; exact plain_ints xs) (by simp only [PyData.depth, depths_ints]; omega)
theorem gNe_str (x : Str) : gNe (.str x) (.str x) = some (.bool false) := gNe_self rfl (by simp only [PyData.depth]; omega)
theorem gEq_str (x : Str) : gEq (.str x) (.str x) = some (.bool true) := gEq_self rfl (by simp only [PyData.depth]; omega)
end PL

/-! PL13: changes within owned data. -/
namespace PL
open PySem PySem.Spec PyProof.Rows L2

section
variable {X : Cx} {H0 : En} {W : WX} {e a b c : Expr} {es : List Expr} {f g : EF} {pos apos cpos jp sp : Pos} {K : PySem.W.Frag} {B H B' H' : Hp} {σ : L2.St} {mg : Str → Option Value} {ρ : Ev} {kk : Nat}
def seqF : PyData → Option (List PyData)
  | .list ds => some ds
  | .tuple ds => some ds
  | _ => none
/-- a cell within slot i's owned datum is written: the slot is forgotten -/
theorem ER.wrF {i : Nat} {d : PyData} {ds es : List PyData} {j : Int} {q p : Addr} {xs : List V} {u : HO} (E : ER K H0 B H σ ρ) (hi : ρ[i]? = some (.full d)) (hv : σ[i]? = some (some (.ref q))) (hd : seqF d = some ds) (hj : atI ds j = some (.list es))
    (hq : H q = some (.lst xs) ∨ H q = some (.tup xs)) (hx : atI xs j = some (.ref p)) : ER K H0 B (upd H p u) σ (ρ.set i .und) := by
  obtain ⟨F, f1, f2, f3, f4⟩ := E.ex
  obtain ⟨v', e1, r1⟩ := f4 i _ hi
  have : v' = .ref q := by rw [hv] at e1; exact (Option.some.inj (Option.some.inj e1)).symm
  subst this
  have hF : F i p ≠ none := by
    cases d <;> first | cases hd | skip
    · obtain ⟨a, ys, ea, h1, h2⟩ := Rep.lstV r1
      cases ea
      have hH : H q = some (.lst ys) := f1 i _ _ h1
      have : ys = xs := by
        rcases hq with z | z
        · rw [hH] at z; cases z; rfl
        · rw [hH] at z; cases z
      subst this
      obtain ⟨z', h3, h4⟩ := atI_rep h2 hj
      rw [hx] at h3
      cases h3
      obtain ⟨p', zs, h6, h7, h8⟩ := Rep.lstV h4
      cases h6
      rw [show F i p = _ from h7]; simp
    · obtain ⟨a, ys, ea, h1, h2⟩ := Rep.tupV r1
      cases ea
      have hH : H q = some (.tup ys) := f1 i _ _ h1
      have : ys = xs := by
        rcases hq with z | z
        · rw [hH] at z; cases z
        · rw [hH] at z; cases z; rfl
      subst this
      obtain ⟨z', h3, h4⟩ := atI_rep h2 hj
      rw [hx] at h3
      cases h3
      obtain ⟨p', zs, h6, h7, h8⟩ := Rep.lstV h4
      cases h6
      rw [show F i p = _ from h7]; simp
  obtain ⟨g1, g2⟩ := f2 i p hF
  refine ⟨same_updD E.e0 g2, E.b0, E.n0, same_updD E.eB g1, by rw [List.length_set]; exact E.len, fun j => if j = i then emp else F j, ⟨fun j => ?_, fun j a h => ?_, fun j k a hjk h => ?_, fun j u hu => ?_⟩⟩
  · dsimp only
    split
    · exact fun _ _ z => nomatch z
    · rename_i hj
      exact same_updD (f1 j) (f3 i j p (Ne.symm hj) hF)
  · dsimp only at h
    split at h
    · exact absurd rfl h
    · exact f2 j a h
  · dsimp only at h ⊢
    split at h
    · exact absurd rfl h
    · split
      · rfl
      · exact f3 j k a hjk h
  · dsimp only
    by_cases hj : j = i
    · subst hj
      have hl : j < ρ.length := by have := (List.getElem?_eq_some_iff.mp hu).1; rwa [List.length_set] at this
      rw [List.getElem?_set_self hl] at hu
      cases hu
      trivial
    · rw [List.getElem?_set_ne (Ne.symm hj)] at hu
      rw [if_neg hj]
      exact f4 j u hu
/-- x[j].append(e), x an owned datum: forgotten then -/
def sAppAt (i : Nat) (j : Int) (f : EF) : SF := fun ρ => match ρ[i]? with
  | some (.full d) => match seqF d with
    | some ds => match atI ds j with
      | some (.list es) => bSz (f ρ) ρ fun s => if es.length < 16777216 then some (.nx (ρ.set i .und)) else none
      | _ => none
    | none => none
  | _ => none
theorem psdAppAt {i : Nat} {o : Expr} {j : Int} (ho : PE X o (tVar i)) (he : PD X H0 W e f) (hbase : attributeBase (.Subscript o (.Constant (.int j) kk jp) sp) "append" X.env (eval (.Subscript o (.Constant (.int j) kk jp) sp) X.env) = eval (.Subscript o (.Constant (.int j) kk jp) sp) X.env := by rfl)
    (hfew : ((backTo cpos (starEach (e :: []) X.env)).all (fun x => !x.1) && (backToKw cpos (keywordEach [] X.env)).all (fun x => x.1.isSome) && decide ((e :: []).length + ([] : List Keyword).length + (if ([] : List Keyword).isEmpty then 0 else 1) < 30)) = true := by rfl)
    (hline : (apos.endLine == cpos.line) = true := by rfl) (hs : starEach (e :: []) X.env = (false, eval e X.env) :: starEach [] X.env := by rfl) (hplain : (backTo cpos (starEach [] X.env)).any (·.1) = false := by rfl)
    (hsw : swapsWith (.Call (.Attribute (.Subscript o (.Constant (.int j) kk jp) sp) "append" apos) [e] [] cpos) none pos.line X.env = pure false := by rfl) : PSD X H0 W (.Expr (.Call (.Attribute (.Subscript o (.Constant (.int j) kk jp) sp) "append" apos) [e] [] cpos) pos) (sAppAt i j f) :=
  ⟨psWeak (ps_expr (pe_bm PySem.F.plainAttrs_list PySem.F.slot_list_append PySem.F.type_list_append mt_append (pe_ix ix_seq ho pe_int (fun _ _ => rfl)) (pa_cons he.z pa_nil hs) hbase hfew hline hs hplain) hsw) fun D σ H ⟨B, ρ, o, E, h, ho⟩ => by
  unfold sAppAt at h
  split at h
  · rename_i d hi
    split at h
    · rename_i ds hd
      split at h
      · rename_i es hj
        obtain ⟨F, f1, f2, f3, f4⟩ := E.ex
        obtain ⟨v, e1, r1⟩ := f4 i _ hi
        cases d <;> first | cases hd | skip
        · obtain ⟨a, xs, rfl, h1, h2⟩ := Rep.lstV r1
          obtain ⟨z', h3, h4⟩ := atI_rep h2 hj
          obtain ⟨p, ys, rfl, h7, h8⟩ := Rep.lstV h4
          have hA : H a = some (.lst xs) := f1 i _ _ h1
          have hP : H p = some (.lst ys) := f1 i _ _ h7
          refine ⟨_, e1, .inl ⟨a, xs, j, _, rfl, rfl, SqL.of hA, h3, .inl ⟨rfl, ys, SqL.of hP⟩, B, ρ, E, bSz_ok E h ho fun s v B' H' n r q ho' => ?_⟩⟩
          split at q
          · rename_i hz
            cases q
            exact ⟨p, ys, v, rfl, rfl, n.h _ _ hP, by rw [h8.length, sizeLine_eq]; exact hz, ho' σ B' _ ((E.nx n).wrF hi e1 rfl hj (.inl (n.h _ _ hA)) h3) (Same.refl _)⟩
          · cases q
        · obtain ⟨a, xs, rfl, h1, h2⟩ := Rep.tupV r1
          obtain ⟨z', h3, h4⟩ := atI_rep h2 hj
          obtain ⟨p, ys, rfl, h7, h8⟩ := Rep.lstV h4
          have hA : H a = some (.tup xs) := f1 i _ _ h1
          have hP : H p = some (.lst ys) := f1 i _ _ h7
          refine ⟨_, e1, .inr (.inl ⟨a, xs, j, _, rfl, rfl, SqT.of hA, h3, .inl ⟨rfl, ys, SqL.of hP⟩, B, ρ, E, bSz_ok E h ho fun s v B' H' n r q ho' => ?_⟩)⟩
          split at q
          · rename_i hz
            cases q
            exact ⟨p, ys, v, rfl, rfl, n.h _ _ hP, by rw [h8.length, sizeLine_eq]; exact hz, ho' σ B' _ ((E.nx n).wrF hi e1 rfl hj (.inr (n.h _ _ hA)) h3) (Same.refl _)⟩
          · cases q
      · cases h
    · cases h
  · cases h⟩
end

/-! ### equations: changes within -/
def kAA (i : Nat) (ρ : Ev) (o : Option PyData) (r : Option Rs) : Option Out := match o with
  | some (.list es) => bSz r ρ fun s => if es.length < 16777216 then some (.nx (ρ.set i .und)) else none
  | _ => none
def kAppAt (i : Nat) (j : Int) (ρ : Ev) (o : Option Sl) (r : Option Rs) : Option Out := match o with
  | some (.full d) => match seqF d with
    | some ds => kAA i ρ (atI ds j) r
    | none => none
  | _ => none
theorem ev_appAt (i : Nat) (j : Int) (f : EF) (ρ : Ev) : sAppAt i j f ρ = kAppAt i j ρ ρ[i]? (f ρ) := by
  unfold sAppAt kAppAt kAA
  rfl
theorem kAppAt_tuple (i : Nat) (j : Int) (ρ : Ev) (ds : List PyData) (r : Option Rs) : kAppAt i j ρ (some (.full (.tuple ds))) r = kAA i ρ (atI ds j) r := rfl
theorem kAppAt_list (i : Nat) (j : Int) (ρ : Ev) (ds : List PyData) (r : Option Rs) : kAppAt i j ρ (some (.full (.list ds))) r = kAA i ρ (atI ds j) r := rfl
theorem kAA_ok (i : Nat) (ρ : Ev) (es : List PyData) (s : Sl) (h : es.length < 16777216) : kAA i ρ (some (.list es)) (some (.ok s)) = some (.nx (ρ.set i .und)) := by
  show (if es.length < 16777216 then _ else _) = _
  rw [if_pos h]
theorem ev_andI (i j : Int) : gAnd (.int i) (.int j) = some (.int (Builtin.bitAnd i j)) := rfl
theorem ev_orI (i j : Int) : gOr (.int i) (.int j) = some (.int (Builtin.bitOr i j)) := rfl
theorem ev_shr (i j : Int) (h : 0 ≤ j) : gShr (.int i) (.int j) = some (.int (i / 2 ^ j.toNat)) := by
  show (if cd (0 ≤ j) = true then _ else _) = _
  rw [if_pos (cd_true h)]
theorem ev_shl (i j : Int) (h : 0 ≤ j) (h' : j ≤ 1000000) (h2 : i.natAbs < 18446744073709551616) : gShl (.int i) (.int j) = some (.int (i * 2 ^ j.toNat)) := by
  show (if cd (0 ≤ j ∧ j ≤ 1000000 ∧ i.natAbs < 18446744073709551616) = true then _ else _) = _
  rw [if_pos (cd_true ⟨h, h', h2⟩)]
end PL

namespace PF
open PySem PySem.Spec PyProof.Rows L2 PL
noncomputable section
theorem scal_int (i : Int) : PL.scal (.int i) = true := rfl
theorem scal_bool (i : Bool) : PL.scal (.bool i) = true := rfl
theorem scal_str (i : Str) : PL.scal (.str i) = true := rfl
theorem scal_none : PL.scal .none = true := rfl
theorem scal_list (i : List PyData) : PL.scal (.list i) = false := rfl
theorem scal_tuple (i : List PyData) : PL.scal (.tuple i) = false := rfl
def B__law_draws_1 : SF := (sIf (bAnd (tOf (eVar 5)) (bOf (e2 (fD gGt) (eVar 3) (eC (.int 1)))))
  (sSeq (sApp 2 (e2 (fD gMod) (eCB (fD1 gInt) [(eVar 3)]) (eVar 6)))
  (sSetZ 3 (e2 (fD gDiv) (eVar 3) (eVar 6))))
  (sSeq (sSetZ 4 (e2 (fD gMod) (eCB (fD1 gInt) [(e2 fAdd (e2 fMul (eVar 4) (eC (.int 48271))) (eC (.int 11)))]) (eC (.int 2147483647))))
  (sSeq (sSetZ 4 (e2 (fD gMod) (eCB (fD1 gInt) [(e2 fAdd (e2 fMul (eVar 4) (eC (.int 69621))) (eC (.int 7)))]) (eC (.int 2147483647))))
  (sApp 2 (e2 (fD gMod) (eCB (fD1 gInt) [(e2 (fD gDiv) (eVar 4) (eC (.int 13)))]) (eVar 6))))))
def F__law_draws : SF := (sSeq (sSet 2 (eList []))
  (sSeq (sSetZ 3 (eCB (fD1 gAbs) [(eCB (fD1 gInt) [(eVar 0)])]))
  (sSeq (sSetZ 4 (e2 (fD gMod) (eCB (fD1 gInt) [(eVar 3)]) (eC (.int 2147483647))))
  (sSeq (sSetZ 5 (eOr (e2 (fD gLt) (eVar 0) (eC (.int 0))) (e2 (fD gGe) (eVar 0) (e2 (fD gPow) (eC (.int 10)) (eC (.int 18))))))
  (sSeq (sForD [6] (iL (eVar 1)) (gN 6)
  PF.B__law_draws_1)
  (sFg [3, 4] (sRetOwn 2)))))))
def f__law_draws : FN := callF 7 F__law_draws
/-- drawn numbers stand below their limits -/
def Below : List Int → List Int → Prop
  | [], [] => True
  | r :: rs, l :: ls => 0 ≤ r ∧ r < l ∧ Below rs ls
  | _, _ => False
theorem Below.snoc : ∀ {rs ls : List Int} {r l : Int}, Below rs ls → 0 ≤ r → r < l → Below (rs ++ [r]) (ls ++ [l])
  | [], [], _, _, _, h1, h2 => ⟨h1, h2, trivial⟩
  | _ :: _, _ :: _, _, _, h, h1, h2 => ⟨h.1, h.2.1, h.2.2.snoc h1 h2⟩
  | [], _ :: _, _, _, h, _, _ => h.elim
  | _ :: _, [], _, _, h, _, _ => h.elim
theorem Below.length : ∀ {rs ls : List Int}, Below rs ls → rs.length = ls.length
  | [], [], _ => rfl
  | _ :: _, _ :: _, h => congrArg (· + 1) h.2.2.length
  | [], _ :: _, h => h.elim
  | _ :: _, [], h => h.elim
theorem draws_ok (c : Int) (lims : List Int) (h : ∀ l ∈ lims, 0 < l ∧ l < 1073741824) (hl : lims.length < 16777216) : ∃ rs : List Int, f__law_draws [.int c, .list (lims.map .int)] = some (.ret true (.list (rs.map .int))) ∧ Below rs lims := by
  simp only [f__law_draws, F__law_draws, ev_seq, kSeq_nx, kSeq_rt, kSeq_bk, kSeq_ct, kSeq_ex, ev_nil, ev_pass, ev_break, ev_cont, ev_retn, ev_fg, fgt_nil, fgt_cons, ev_gh, kGh_some, ev_gfrz, kFrz_some, ev_gown, kOwn_full, kOwn_own, kOwn_val, ev_setZ, kSetZ_val, kSetZ_own, kSetZ_full, kSetZ_ex, ev_set, kSet_val, kSet_own, kSet_full, kSet_ex, ev_ret, kRet_val, kRet_own, kRet_full, kRet_ex, ev_retO, kRetO_own, kRetO_val, kRetO_full, ev_expr, kExpr_ok, kExpr_ex, ev_if, kIf_true, kIf_false, ev_for, kFor_ok, ev_while, ev_turn, kTurn1_some, kTurn_nx, kTurn_ct, kTurn_bk, kTurn_rt, kTurn_ex, ev_wturn, kW_true, kW_false, ev_gN, ev_gT, kT_some, itemsT_val, gSets_nil, gSets_val, mkv_int, mkv_bool, mkv_str, mkv_none, mkv_list, mkv_tuple, ev_unp, kUnp_val, kUnp_full, kU_some, ev_aug, kAug_val, kA_some, ev_app, kApp_val, kApp_own, kApp_full, ev_put, kPut_val, callF_eq, entE_nil, unds_succ, unds_zero, entE_cons, entS_int, entS_bool, entS_str, entS_none, entS_list, entS_tuple, kF_nx, kF_rt, kF_ex, frOf_val, frOf_own, frOf_full, ev_var, kVar_val, kVar_own, kVar_full, ev_c, ev_e2, k2_ok, okO_some, ev_e1, k1_ok, frz_val, frz_own, frz_full, frz_bor, frz_brf, dat_val, dat_bor, dat_brf, ev_evs0, ev_evs, kC_ok, ev_cb, kCB_ok, ev_call, kCall_ok, ev_cres, kRs_some, kRes_int, kRes_bool, kRes_str, kRes_none, kRes_list, kRes_tuple, kRes_false, kRes_exc, dats_nil, dats_cons, kD_some, isVal_val, isVal_bor, isVal_brf, ev_isa, kIsa_val, kIsa_own, kIsa_bor, kIsa_full, kIsa_brf, ev_and, kAnd_val, kAnd2_true, kAnd2_false, kAnd2_val, ev_or, kOr_val, kOr2_true, kOr2_false, kOr2_val, ev_not, kNot_val, ev_ife, kIfE_true, kIfE_false, ev_bof, kB_val, ev_tof, kTo_val, kTo_own, kTo_bor, kTo_full, kTo_brf, okB_some, truth_bool, truth_int, truth_none, truth_list, truth_tuple, ev_bnot, kNotB_ok, ev_band, kAndB_ok, kAndB2_true, kAndB2_false, kAndB2_ok, ev_bor, kOrB_ok, kOrB2_true, kOrB2_false, kOrB2_ok, ev_chain, kCh_ok, kCh2_false, kCh2_true, ev_fD, kD2_some, kS_int, kS_bool, kS_str, kS_none, ev_sub, ev_addI, ev_iadd, ev_div, ev_mod, ev_pow, ev_mulI, ev_neg, ev_eqI, ev_neI, ev_ltI, ev_leI, ev_gtI, ev_geI, ev_fD1, kD1_some, ev_int, ev_intb, ev_abs, ev_lenL, ev_lenT, ev_fI2, ev_catVV, ev_repV, ev_list, kLst_ok, ev_tup, kTup_ok, kMk_some, kMkT_some, stors_nil, stors_cons, kSt_some, stor_val, ev_ixL, ev_ixT, ev_ixB, atI_cast, atI_0, atI_1, atI_2, atI_3, atI_4, atI_5, atI_6, atI_7, ev_slice, kSl_val, kSl_own, kSl_bor, kSl_full, ev_pN, ev_pS, kP_int, ev_rev, ev_ls, ev_lsT, ev_tl, all_scal, ev_sorted, kSo_some, ev_iL, kIL_val, kIL_own, kIL_full, ev_iR, kR_1, kR_2, map_mkv_int, mkI_eq, rngI_eq, mkN_eq, ev_iR3, kR3_ok, rngC_eq, mkC_eq, ev_iM, kM_ok, kM2_some, mkEn_val, mkTp_val, ev_iZp, kZp_ok, mkZp_val, ev_lc, kLc_ok, kLcM_some, wipeE_nil, wipeE_cons, ev_byes, kE_val, kE_own, kE_full, kEl_some, kTl_some, ev_appAt, kAppAt_tuple, kAppAt_list, kAA_ok, ev_andI, ev_orI, ev_shr, ev_shl, List.getElem?_cons_zero, List.getElem?_cons_succ, List.set_cons_zero, List.set_cons_succ, List.all_nil, List.all_cons, Bool.and_true, Bool.true_and, Bool.or_true, Bool.true_or, Bool.or_false, Bool.false_or, Bool.and_false, Bool.false_and, Bool.not_true, Bool.not_false, Option.map_some, List.length_nil, List.length_cons, List.length_map, List.nil_append, List.map_cons, List.map_nil, scal_int, scal_bool, scal_str, scal_none, scal_list, scal_tuple, cd_true, cd_false, not_true_eq_false, not_false_eq_true, Nat.zero_le, and_self, true_and, and_true, ne_eq, not_false_eq_true, reduceIte, Nat.reduceLT, Nat.reduceLeDiff, Nat.reduceAdd, Nat.reduceMul, Nat.reduceSub, Nat.reduceEqDiff, Int.reduceLT, Int.reduceLE, Int.reduceAdd, Int.reduceSub, Int.reduceMul, Int.reduceNeg, Int.reduceToNat, Int.reduceEq, Int.reduceAbs, Int.reducePow]
  refine forT_nx (fun l ρ => ∃ dn rs r s b, lims = dn ++ l ∧ Below rs dn ∧ ρ = [.val true (.int c), .val false (.list (lims.map .int)), .own true (rs.map .int), .val true (.int r), .val true (.int s), .val true (.bool b), .und]) (fun o => ∃ rs, kF (kSeq o _) = some (.ret true (.list (rs.map .int))) ∧ Below rs lims) ⟨[], [], _, _, _, rfl, trivial, rfl⟩ ?_ ?_
  · rintro a l ρ ⟨dn, rs, r, s, b, e1, hb, rfl⟩
    have ha := h a (by rw [e1]; simp)
    have hn : rs.length < 16777216 := by
      have := congrArg List.length e1
      rw [List.length_append, List.length_cons, ← hb.length] at this
      omega
    have c1 : cMul s 48271 = true := cMul2 (by decide) (by decide)
    have c2 : ∀ s, cMul s 69621 = true := fun s => cMul2 (by decide) (by decide)
    have e2 : lims = dn ++ [a] ++ l := by rw [e1, List.append_assoc]; rfl
    cases hb1 : (b && cd (1 < r)) with
    | true =>
      simp only [B__law_draws_1, ev_seq, kSeq_nx, kSeq_rt, kSeq_bk, kSeq_ct, kSeq_ex, ev_nil, ev_pass, ev_break, ev_cont, ev_retn, ev_fg, fgt_nil, fgt_cons, ev_gh, kGh_some, ev_gfrz, kFrz_some, ev_gown, kOwn_full, kOwn_own, kOwn_val, ev_setZ, kSetZ_val, kSetZ_own, kSetZ_full, kSetZ_ex, ev_set, kSet_val, kSet_own, kSet_full, kSet_ex, ev_ret, kRet_val, kRet_own, kRet_full, kRet_ex, ev_retO, kRetO_own, kRetO_val, kRetO_full, ev_expr, kExpr_ok, kExpr_ex, ev_if, kIf_true, kIf_false, ev_for, kFor_ok, ev_while, ev_turn, kTurn1_some, kTurn_nx, kTurn_ct, kTurn_bk, kTurn_rt, kTurn_ex, ev_wturn, kW_true, kW_false, ev_gN, ev_gT, kT_some, itemsT_val, gSets_nil, gSets_val, mkv_int, mkv_bool, mkv_str, mkv_none, mkv_list, mkv_tuple, ev_unp, kUnp_val, kUnp_full, kU_some, ev_aug, kAug_val, kA_some, ev_app, kApp_val, kApp_own, kApp_full, ev_put, kPut_val, callF_eq, entE_nil, unds_succ, unds_zero, entE_cons, entS_int, entS_bool, entS_str, entS_none, entS_list, entS_tuple, kF_nx, kF_rt, kF_ex, frOf_val, frOf_own, frOf_full, ev_var, kVar_val, kVar_own, kVar_full, ev_c, ev_e2, k2_ok, okO_some, ev_e1, k1_ok, frz_val, frz_own, frz_full, frz_bor, frz_brf, dat_val, dat_bor, dat_brf, ev_evs0, ev_evs, kC_ok, ev_cb, kCB_ok, ev_call, kCall_ok, ev_cres, kRs_some, kRes_int, kRes_bool, kRes_str, kRes_none, kRes_list, kRes_tuple, kRes_false, kRes_exc, dats_nil, dats_cons, kD_some, isVal_val, isVal_bor, isVal_brf, ev_isa, kIsa_val, kIsa_own, kIsa_bor, kIsa_full, kIsa_brf, ev_and, kAnd_val, kAnd2_true, kAnd2_false, kAnd2_val, ev_or, kOr_val, kOr2_true, kOr2_false, kOr2_val, ev_not, kNot_val, ev_ife, kIfE_true, kIfE_false, ev_bof, kB_val, ev_tof, kTo_val, kTo_own, kTo_bor, kTo_full, kTo_brf, okB_some, truth_bool, truth_int, truth_none, truth_list, truth_tuple, ev_bnot, kNotB_ok, ev_band, kAndB_ok, kAndB2_true, kAndB2_false, kAndB2_ok, ev_bor, kOrB_ok, kOrB2_true, kOrB2_false, kOrB2_ok, ev_chain, kCh_ok, kCh2_false, kCh2_true, ev_fD, kD2_some, kS_int, kS_bool, kS_str, kS_none, ev_sub, ev_addI, ev_iadd, ev_div, ev_mod, ev_pow, ev_mulI, ev_neg, ev_eqI, ev_neI, ev_ltI, ev_leI, ev_gtI, ev_geI, ev_fD1, kD1_some, ev_int, ev_intb, ev_abs, ev_lenL, ev_lenT, ev_fI2, ev_catVV, ev_repV, ev_list, kLst_ok, ev_tup, kTup_ok, kMk_some, kMkT_some, stors_nil, stors_cons, kSt_some, stor_val, ev_ixL, ev_ixT, ev_ixB, atI_cast, atI_0, atI_1, atI_2, atI_3, atI_4, atI_5, atI_6, atI_7, ev_slice, kSl_val, kSl_own, kSl_bor, kSl_full, ev_pN, ev_pS, kP_int, ev_rev, ev_ls, ev_lsT, ev_tl, all_scal, ev_sorted, kSo_some, ev_iL, kIL_val, kIL_own, kIL_full, ev_iR, kR_1, kR_2, map_mkv_int, mkI_eq, rngI_eq, mkN_eq, ev_iR3, kR3_ok, rngC_eq, mkC_eq, ev_iM, kM_ok, kM2_some, mkEn_val, mkTp_val, ev_iZp, kZp_ok, mkZp_val, ev_lc, kLc_ok, kLcM_some, wipeE_nil, wipeE_cons, ev_byes, kE_val, kE_own, kE_full, kEl_some, kTl_some, ev_appAt, kAppAt_tuple, kAppAt_list, kAA_ok, ev_andI, ev_orI, ev_shr, ev_shl, List.getElem?_cons_zero, List.getElem?_cons_succ, List.set_cons_zero, List.set_cons_succ, List.all_nil, List.all_cons, Bool.and_true, Bool.true_and, Bool.or_true, Bool.true_or, Bool.or_false, Bool.false_or, Bool.and_false, Bool.false_and, Bool.not_true, Bool.not_false, Option.map_some, List.length_nil, List.length_cons, List.length_map, List.nil_append, List.map_cons, List.map_nil, scal_int, scal_bool, scal_str, scal_none, scal_list, scal_tuple, cd_true, cd_false, not_true_eq_false, not_false_eq_true, Nat.zero_le, and_self, true_and, and_true, ne_eq, not_false_eq_true, reduceIte, Nat.reduceLT, Nat.reduceLeDiff, Nat.reduceAdd, Nat.reduceMul, Nat.reduceSub, Nat.reduceEqDiff, Int.reduceLT, Int.reduceLE, Int.reduceAdd, Int.reduceSub, Int.reduceMul, Int.reduceNeg, Int.reduceToNat, Int.reduceEq, Int.reduceAbs, Int.reducePow, ha.1, ha.2, hn, hb1]
      exact ⟨_, rfl, dn ++ [a], rs ++ [r % a], _, _, _, e2, hb.snoc (Int.emod_nonneg _ (by omega)) (Int.emod_lt_of_pos _ ha.1), by rw [List.map_append]; rfl⟩
    | false =>
      simp only [B__law_draws_1, ev_seq, kSeq_nx, kSeq_rt, kSeq_bk, kSeq_ct, kSeq_ex, ev_nil, ev_pass, ev_break, ev_cont, ev_retn, ev_fg, fgt_nil, fgt_cons, ev_gh, kGh_some, ev_gfrz, kFrz_some, ev_gown, kOwn_full, kOwn_own, kOwn_val, ev_setZ, kSetZ_val, kSetZ_own, kSetZ_full, kSetZ_ex, ev_set, kSet_val, kSet_own, kSet_full, kSet_ex, ev_ret, kRet_val, kRet_own, kRet_full, kRet_ex, ev_retO, kRetO_own, kRetO_val, kRetO_full, ev_expr, kExpr_ok, kExpr_ex, ev_if, kIf_true, kIf_false, ev_for, kFor_ok, ev_while, ev_turn, kTurn1_some, kTurn_nx, kTurn_ct, kTurn_bk, kTurn_rt, kTurn_ex, ev_wturn, kW_true, kW_false, ev_gN, ev_gT, kT_some, itemsT_val, gSets_nil, gSets_val, mkv_int, mkv_bool, mkv_str, mkv_none, mkv_list, mkv_tuple, ev_unp, kUnp_val, kUnp_full, kU_some, ev_aug, kAug_val, kA_some, ev_app, kApp_val, kApp_own, kApp_full, ev_put, kPut_val, callF_eq, entE_nil, unds_succ, unds_zero, entE_cons, entS_int, entS_bool, entS_str, entS_none, entS_list, entS_tuple, kF_nx, kF_rt, kF_ex, frOf_val, frOf_own, frOf_full, ev_var, kVar_val, kVar_own, kVar_full, ev_c, ev_e2, k2_ok, okO_some, ev_e1, k1_ok, frz_val, frz_own, frz_full, frz_bor, frz_brf, dat_val, dat_bor, dat_brf, ev_evs0, ev_evs, kC_ok, ev_cb, kCB_ok, ev_call, kCall_ok, ev_cres, kRs_some, kRes_int, kRes_bool, kRes_str, kRes_none, kRes_list, kRes_tuple, kRes_false, kRes_exc, dats_nil, dats_cons, kD_some, isVal_val, isVal_bor, isVal_brf, ev_isa, kIsa_val, kIsa_own, kIsa_bor, kIsa_full, kIsa_brf, ev_and, kAnd_val, kAnd2_true, kAnd2_false, kAnd2_val, ev_or, kOr_val, kOr2_true, kOr2_false, kOr2_val, ev_not, kNot_val, ev_ife, kIfE_true, kIfE_false, ev_bof, kB_val, ev_tof, kTo_val, kTo_own, kTo_bor, kTo_full, kTo_brf, okB_some, truth_bool, truth_int, truth_none, truth_list, truth_tuple, ev_bnot, kNotB_ok, ev_band, kAndB_ok, kAndB2_true, kAndB2_false, kAndB2_ok, ev_bor, kOrB_ok, kOrB2_true, kOrB2_false, kOrB2_ok, ev_chain, kCh_ok, kCh2_false, kCh2_true, ev_fD, kD2_some, kS_int, kS_bool, kS_str, kS_none, ev_sub, ev_addI, ev_iadd, ev_div, ev_mod, ev_pow, ev_mulI, ev_neg, ev_eqI, ev_neI, ev_ltI, ev_leI, ev_gtI, ev_geI, ev_fD1, kD1_some, ev_int, ev_intb, ev_abs, ev_lenL, ev_lenT, ev_fI2, ev_catVV, ev_repV, ev_list, kLst_ok, ev_tup, kTup_ok, kMk_some, kMkT_some, stors_nil, stors_cons, kSt_some, stor_val, ev_ixL, ev_ixT, ev_ixB, atI_cast, atI_0, atI_1, atI_2, atI_3, atI_4, atI_5, atI_6, atI_7, ev_slice, kSl_val, kSl_own, kSl_bor, kSl_full, ev_pN, ev_pS, kP_int, ev_rev, ev_ls, ev_lsT, ev_tl, all_scal, ev_sorted, kSo_some, ev_iL, kIL_val, kIL_own, kIL_full, ev_iR, kR_1, kR_2, map_mkv_int, mkI_eq, rngI_eq, mkN_eq, ev_iR3, kR3_ok, rngC_eq, mkC_eq, ev_iM, kM_ok, kM2_some, mkEn_val, mkTp_val, ev_iZp, kZp_ok, mkZp_val, ev_lc, kLc_ok, kLcM_some, wipeE_nil, wipeE_cons, ev_byes, kE_val, kE_own, kE_full, kEl_some, kTl_some, ev_appAt, kAppAt_tuple, kAppAt_list, kAA_ok, ev_andI, ev_orI, ev_shr, ev_shl, List.getElem?_cons_zero, List.getElem?_cons_succ, List.set_cons_zero, List.set_cons_succ, List.all_nil, List.all_cons, Bool.and_true, Bool.true_and, Bool.or_true, Bool.true_or, Bool.or_false, Bool.false_or, Bool.and_false, Bool.false_and, Bool.not_true, Bool.not_false, Option.map_some, List.length_nil, List.length_cons, List.length_map, List.nil_append, List.map_cons, List.map_nil, scal_int, scal_bool, scal_str, scal_none, scal_list, scal_tuple, cd_true, cd_false, not_true_eq_false, not_false_eq_true, Nat.zero_le, and_self, true_and, and_true, ne_eq, not_false_eq_true, reduceIte, Nat.reduceLT, Nat.reduceLeDiff, Nat.reduceAdd, Nat.reduceMul, Nat.reduceSub, Nat.reduceEqDiff, Int.reduceLT, Int.reduceLE, Int.reduceAdd, Int.reduceSub, Int.reduceMul, Int.reduceNeg, Int.reduceToNat, Int.reduceEq, Int.reduceAbs, Int.reducePow, ha.1, ha.2, hn, hb1, c1, c2]
      exact ⟨_, rfl, dn ++ [a], rs ++ [_ % a], _, _, _, e2, hb.snoc (Int.emod_nonneg _ (by omega)) (Int.emod_lt_of_pos _ ha.1), by rw [List.map_append]; rfl⟩
  · rintro ρ ⟨dn, rs, r, s, b, e1, hb, rfl⟩
    rw [List.append_nil] at e1
    subst e1
    simp only [ev_seq, kSeq_nx, kSeq_rt, kSeq_bk, kSeq_ct, kSeq_ex, ev_nil, ev_pass, ev_break, ev_cont, ev_retn, ev_fg, fgt_nil, fgt_cons, ev_gh, kGh_some, ev_gfrz, kFrz_some, ev_gown, kOwn_full, kOwn_own, kOwn_val, ev_setZ, kSetZ_val, kSetZ_own, kSetZ_full, kSetZ_ex, ev_set, kSet_val, kSet_own, kSet_full, kSet_ex, ev_ret, kRet_val, kRet_own, kRet_full, kRet_ex, ev_retO, kRetO_own, kRetO_val, kRetO_full, ev_expr, kExpr_ok, kExpr_ex, ev_if, kIf_true, kIf_false, ev_for, kFor_ok, ev_while, ev_turn, kTurn1_some, kTurn_nx, kTurn_ct, kTurn_bk, kTurn_rt, kTurn_ex, ev_wturn, kW_true, kW_false, ev_gN, ev_gT, kT_some, itemsT_val, gSets_nil, gSets_val, mkv_int, mkv_bool, mkv_str, mkv_none, mkv_list, mkv_tuple, ev_unp, kUnp_val, kUnp_full, kU_some, ev_aug, kAug_val, kA_some, ev_app, kApp_val, kApp_own, kApp_full, ev_put, kPut_val, callF_eq, entE_nil, unds_succ, unds_zero, entE_cons, entS_int, entS_bool, entS_str, entS_none, entS_list, entS_tuple, kF_nx, kF_rt, kF_ex, frOf_val, frOf_own, frOf_full, ev_var, kVar_val, kVar_own, kVar_full, ev_c, ev_e2, k2_ok, okO_some, ev_e1, k1_ok, frz_val, frz_own, frz_full, frz_bor, frz_brf, dat_val, dat_bor, dat_brf, ev_evs0, ev_evs, kC_ok, ev_cb, kCB_ok, ev_call, kCall_ok, ev_cres, kRs_some, kRes_int, kRes_bool, kRes_str, kRes_none, kRes_list, kRes_tuple, kRes_false, kRes_exc, dats_nil, dats_cons, kD_some, isVal_val, isVal_bor, isVal_brf, ev_isa, kIsa_val, kIsa_own, kIsa_bor, kIsa_full, kIsa_brf, ev_and, kAnd_val, kAnd2_true, kAnd2_false, kAnd2_val, ev_or, kOr_val, kOr2_true, kOr2_false, kOr2_val, ev_not, kNot_val, ev_ife, kIfE_true, kIfE_false, ev_bof, kB_val, ev_tof, kTo_val, kTo_own, kTo_bor, kTo_full, kTo_brf, okB_some, truth_bool, truth_int, truth_none, truth_list, truth_tuple, ev_bnot, kNotB_ok, ev_band, kAndB_ok, kAndB2_true, kAndB2_false, kAndB2_ok, ev_bor, kOrB_ok, kOrB2_true, kOrB2_false, kOrB2_ok, ev_chain, kCh_ok, kCh2_false, kCh2_true, ev_fD, kD2_some, kS_int, kS_bool, kS_str, kS_none, ev_sub, ev_addI, ev_iadd, ev_div, ev_mod, ev_pow, ev_mulI, ev_neg, ev_eqI, ev_neI, ev_ltI, ev_leI, ev_gtI, ev_geI, ev_fD1, kD1_some, ev_int, ev_intb, ev_abs, ev_lenL, ev_lenT, ev_fI2, ev_catVV, ev_repV, ev_list, kLst_ok, ev_tup, kTup_ok, kMk_some, kMkT_some, stors_nil, stors_cons, kSt_some, stor_val, ev_ixL, ev_ixT, ev_ixB, atI_cast, atI_0, atI_1, atI_2, atI_3, atI_4, atI_5, atI_6, atI_7, ev_slice, kSl_val, kSl_own, kSl_bor, kSl_full, ev_pN, ev_pS, kP_int, ev_rev, ev_ls, ev_lsT, ev_tl, all_scal, ev_sorted, kSo_some, ev_iL, kIL_val, kIL_own, kIL_full, ev_iR, kR_1, kR_2, map_mkv_int, mkI_eq, rngI_eq, mkN_eq, ev_iR3, kR3_ok, rngC_eq, mkC_eq, ev_iM, kM_ok, kM2_some, mkEn_val, mkTp_val, ev_iZp, kZp_ok, mkZp_val, ev_lc, kLc_ok, kLcM_some, wipeE_nil, wipeE_cons, ev_byes, kE_val, kE_own, kE_full, kEl_some, kTl_some, ev_appAt, kAppAt_tuple, kAppAt_list, kAA_ok, ev_andI, ev_orI, ev_shr, ev_shl, List.getElem?_cons_zero, List.getElem?_cons_succ, List.set_cons_zero, List.set_cons_succ, List.all_nil, List.all_cons, Bool.and_true, Bool.true_and, Bool.or_true, Bool.true_or, Bool.or_false, Bool.false_or, Bool.and_false, Bool.false_and, Bool.not_true, Bool.not_false, Option.map_some, List.length_nil, List.length_cons, List.length_map, List.nil_append, List.map_cons, List.map_nil, scal_int, scal_bool, scal_str, scal_none, scal_list, scal_tuple, cd_true, cd_false, not_true_eq_false, not_false_eq_true, Nat.zero_le, and_self, true_and, and_true, ne_eq, not_false_eq_true, reduceIte, Nat.reduceLT, Nat.reduceLeDiff, Nat.reduceAdd, Nat.reduceMul, Nat.reduceSub, Nat.reduceEqDiff, Int.reduceLT, Int.reduceLE, Int.reduceAdd, Int.reduceSub, Int.reduceMul, Int.reduceNeg, Int.reduceToNat, Int.reduceEq, Int.reduceAbs, Int.reducePow]
    exact ⟨rs, rfl, hb⟩
def B__law_power_1 : SF := (sSetZ 2 (e2 fMul (eVar 2) (eVar 0)))
def F__law_power : SF := (sSeq (sSetZ 2 (eC (.int 1)))
  (sSeq (sForD [3] (iR [(eVar 1)]) (gN 3)
  PF.B__law_power_1)
  (sRet (eVar 2))))
def f__law_power : FN := callF 4 F__law_power
theorem power_ok (s e : Nat) (hs : s < 18446744073709551616) (he : e < 4611686018427387904) : f__law_power [.int s, .int e] = some (.ret true (.int ((s ^ e : Nat) : Int))) := by
  have h6 : small62 (e : Int) = true := small62_ok (by omega) (by omega)
  have hc : ∀ i : Int, cMul i s = true := fun i => cMul2 (by omega) (by omega)
  simp only [f__law_power, F__law_power, ev_seq, kSeq_nx, kSeq_rt, kSeq_bk, kSeq_ct, kSeq_ex, ev_nil, ev_pass, ev_break, ev_cont, ev_retn, ev_fg, fgt_nil, fgt_cons, ev_gh, kGh_some, ev_gfrz, kFrz_some, ev_gown, kOwn_full, kOwn_own, kOwn_val, ev_setZ, kSetZ_val, kSetZ_own, kSetZ_full, kSetZ_ex, ev_set, kSet_val, kSet_own, kSet_full, kSet_ex, ev_ret, kRet_val, kRet_own, kRet_full, kRet_ex, ev_retO, kRetO_own, kRetO_val, kRetO_full, ev_expr, kExpr_ok, kExpr_ex, ev_if, kIf_true, kIf_false, ev_for, kFor_ok, ev_while, ev_turn, kTurn1_some, kTurn_nx, kTurn_ct, kTurn_bk, kTurn_rt, kTurn_ex, ev_wturn, kW_true, kW_false, ev_gN, ev_gT, kT_some, itemsT_val, gSets_nil, gSets_val, mkv_int, mkv_bool, mkv_str, mkv_none, mkv_list, mkv_tuple, ev_unp, kUnp_val, kUnp_full, kU_some, ev_aug, kAug_val, kA_some, ev_app, kApp_val, kApp_own, kApp_full, ev_put, kPut_val, callF_eq, entE_nil, unds_succ, unds_zero, entE_cons, entS_int, entS_bool, entS_str, entS_none, entS_list, entS_tuple, kF_nx, kF_rt, kF_ex, frOf_val, frOf_own, frOf_full, ev_var, kVar_val, kVar_own, kVar_full, ev_c, ev_e2, k2_ok, okO_some, ev_e1, k1_ok, frz_val, frz_own, frz_full, frz_bor, frz_brf, dat_val, dat_bor, dat_brf, ev_evs0, ev_evs, kC_ok, ev_cb, kCB_ok, ev_call, kCall_ok, ev_cres, kRs_some, kRes_int, kRes_bool, kRes_str, kRes_none, kRes_list, kRes_tuple, kRes_false, kRes_exc, dats_nil, dats_cons, kD_some, isVal_val, isVal_bor, isVal_brf, ev_isa, kIsa_val, kIsa_own, kIsa_bor, kIsa_full, kIsa_brf, ev_and, kAnd_val, kAnd2_true, kAnd2_false, kAnd2_val, ev_or, kOr_val, kOr2_true, kOr2_false, kOr2_val, ev_not, kNot_val, ev_ife, kIfE_true, kIfE_false, ev_bof, kB_val, ev_tof, kTo_val, kTo_own, kTo_bor, kTo_full, kTo_brf, okB_some, truth_bool, truth_int, truth_none, truth_list, truth_tuple, ev_bnot, kNotB_ok, ev_band, kAndB_ok, kAndB2_true, kAndB2_false, kAndB2_ok, ev_bor, kOrB_ok, kOrB2_true, kOrB2_false, kOrB2_ok, ev_chain, kCh_ok, kCh2_false, kCh2_true, ev_fD, kD2_some, kS_int, kS_bool, kS_str, kS_none, ev_sub, ev_addI, ev_iadd, ev_div, ev_mod, ev_pow, ev_mulI, ev_neg, ev_eqI, ev_neI, ev_ltI, ev_leI, ev_gtI, ev_geI, ev_fD1, kD1_some, ev_int, ev_intb, ev_abs, ev_lenL, ev_lenT, ev_fI2, ev_catVV, ev_repV, ev_list, kLst_ok, ev_tup, kTup_ok, kMk_some, kMkT_some, stors_nil, stors_cons, kSt_some, stor_val, ev_ixL, ev_ixT, ev_ixB, atI_cast, atI_0, atI_1, atI_2, atI_3, atI_4, atI_5, atI_6, atI_7, ev_slice, kSl_val, kSl_own, kSl_bor, kSl_full, ev_pN, ev_pS, kP_int, ev_rev, ev_ls, ev_lsT, ev_tl, all_scal, ev_sorted, kSo_some, ev_iL, kIL_val, kIL_own, kIL_full, ev_iR, kR_1, kR_2, map_mkv_int, mkI_eq, rngI_eq, mkN_eq, ev_iR3, kR3_ok, rngC_eq, mkC_eq, ev_iM, kM_ok, kM2_some, mkEn_val, mkTp_val, ev_iZp, kZp_ok, mkZp_val, ev_lc, kLc_ok, kLcM_some, wipeE_nil, wipeE_cons, ev_byes, kE_val, kE_own, kE_full, kEl_some, kTl_some, ev_appAt, kAppAt_tuple, kAppAt_list, kAA_ok, ev_andI, ev_orI, ev_shr, ev_shl, List.getElem?_cons_zero, List.getElem?_cons_succ, List.set_cons_zero, List.set_cons_succ, List.all_nil, List.all_cons, Bool.and_true, Bool.true_and, Bool.or_true, Bool.true_or, Bool.or_false, Bool.false_or, Bool.and_false, Bool.false_and, Bool.not_true, Bool.not_false, Option.map_some, List.length_nil, List.length_cons, List.length_map, List.nil_append, List.map_cons, List.map_nil, scal_int, scal_bool, scal_str, scal_none, scal_list, scal_tuple, cd_true, cd_false, not_true_eq_false, not_false_eq_true, Nat.zero_le, and_self, true_and, and_true, ne_eq, not_false_eq_true, reduceIte, Nat.reduceLT, Nat.reduceLeDiff, Nat.reduceAdd, Nat.reduceMul, Nat.reduceSub, Nat.reduceEqDiff, Int.reduceLT, Int.reduceLE, Int.reduceAdd, Int.reduceSub, Int.reduceMul, Int.reduceNeg, Int.reduceToNat, Int.reduceEq, Int.reduceAbs, Int.reducePow, h6, rngI_eq]
  refine forT_nx (fun l ρ => ∃ n : Nat, n + l.length = e ∧ ρ = [.val true (.int s), .val true (.int e), .val true (.int ((s ^ n : Nat) : Int)), .und]) (fun o => kF (kSeq o _) = _) ⟨0, ?_, rfl⟩ ?_ ?_
  · rw [List.length_range]; omega
  · rintro a l ρ ⟨n, e1, rfl⟩
    simp only [B__law_power_1, ev_seq, kSeq_nx, kSeq_rt, kSeq_bk, kSeq_ct, kSeq_ex, ev_nil, ev_pass, ev_break, ev_cont, ev_retn, ev_fg, fgt_nil, fgt_cons, ev_gh, kGh_some, ev_gfrz, kFrz_some, ev_gown, kOwn_full, kOwn_own, kOwn_val, ev_setZ, kSetZ_val, kSetZ_own, kSetZ_full, kSetZ_ex, ev_set, kSet_val, kSet_own, kSet_full, kSet_ex, ev_ret, kRet_val, kRet_own, kRet_full, kRet_ex, ev_retO, kRetO_own, kRetO_val, kRetO_full, ev_expr, kExpr_ok, kExpr_ex, ev_if, kIf_true, kIf_false, ev_for, kFor_ok, ev_while, ev_turn, kTurn1_some, kTurn_nx, kTurn_ct, kTurn_bk, kTurn_rt, kTurn_ex, ev_wturn, kW_true, kW_false, ev_gN, ev_gT, kT_some, itemsT_val, gSets_nil, gSets_val, mkv_int, mkv_bool, mkv_str, mkv_none, mkv_list, mkv_tuple, ev_unp, kUnp_val, kUnp_full, kU_some, ev_aug, kAug_val, kA_some, ev_app, kApp_val, kApp_own, kApp_full, ev_put, kPut_val, callF_eq, entE_nil, unds_succ, unds_zero, entE_cons, entS_int, entS_bool, entS_str, entS_none, entS_list, entS_tuple, kF_nx, kF_rt, kF_ex, frOf_val, frOf_own, frOf_full, ev_var, kVar_val, kVar_own, kVar_full, ev_c, ev_e2, k2_ok, okO_some, ev_e1, k1_ok, frz_val, frz_own, frz_full, frz_bor, frz_brf, dat_val, dat_bor, dat_brf, ev_evs0, ev_evs, kC_ok, ev_cb, kCB_ok, ev_call, kCall_ok, ev_cres, kRs_some, kRes_int, kRes_bool, kRes_str, kRes_none, kRes_list, kRes_tuple, kRes_false, kRes_exc, dats_nil, dats_cons, kD_some, isVal_val, isVal_bor, isVal_brf, ev_isa, kIsa_val, kIsa_own, kIsa_bor, kIsa_full, kIsa_brf, ev_and, kAnd_val, kAnd2_true, kAnd2_false, kAnd2_val, ev_or, kOr_val, kOr2_true, kOr2_false, kOr2_val, ev_not, kNot_val, ev_ife, kIfE_true, kIfE_false, ev_bof, kB_val, ev_tof, kTo_val, kTo_own, kTo_bor, kTo_full, kTo_brf, okB_some, truth_bool, truth_int, truth_none, truth_list, truth_tuple, ev_bnot, kNotB_ok, ev_band, kAndB_ok, kAndB2_true, kAndB2_false, kAndB2_ok, ev_bor, kOrB_ok, kOrB2_true, kOrB2_false, kOrB2_ok, ev_chain, kCh_ok, kCh2_false, kCh2_true, ev_fD, kD2_some, kS_int, kS_bool, kS_str, kS_none, ev_sub, ev_addI, ev_iadd, ev_div, ev_mod, ev_pow, ev_mulI, ev_neg, ev_eqI, ev_neI, ev_ltI, ev_leI, ev_gtI, ev_geI, ev_fD1, kD1_some, ev_int, ev_intb, ev_abs, ev_lenL, ev_lenT, ev_fI2, ev_catVV, ev_repV, ev_list, kLst_ok, ev_tup, kTup_ok, kMk_some, kMkT_some, stors_nil, stors_cons, kSt_some, stor_val, ev_ixL, ev_ixT, ev_ixB, atI_cast, atI_0, atI_1, atI_2, atI_3, atI_4, atI_5, atI_6, atI_7, ev_slice, kSl_val, kSl_own, kSl_bor, kSl_full, ev_pN, ev_pS, kP_int, ev_rev, ev_ls, ev_lsT, ev_tl, all_scal, ev_sorted, kSo_some, ev_iL, kIL_val, kIL_own, kIL_full, ev_iR, kR_1, kR_2, map_mkv_int, mkI_eq, rngI_eq, mkN_eq, ev_iR3, kR3_ok, rngC_eq, mkC_eq, ev_iM, kM_ok, kM2_some, mkEn_val, mkTp_val, ev_iZp, kZp_ok, mkZp_val, ev_lc, kLc_ok, kLcM_some, wipeE_nil, wipeE_cons, ev_byes, kE_val, kE_own, kE_full, kEl_some, kTl_some, ev_appAt, kAppAt_tuple, kAppAt_list, kAA_ok, ev_andI, ev_orI, ev_shr, ev_shl, List.getElem?_cons_zero, List.getElem?_cons_succ, List.set_cons_zero, List.set_cons_succ, List.all_nil, List.all_cons, Bool.and_true, Bool.true_and, Bool.or_true, Bool.true_or, Bool.or_false, Bool.false_or, Bool.and_false, Bool.false_and, Bool.not_true, Bool.not_false, Option.map_some, List.length_nil, List.length_cons, List.length_map, List.nil_append, List.map_cons, List.map_nil, scal_int, scal_bool, scal_str, scal_none, scal_list, scal_tuple, cd_true, cd_false, not_true_eq_false, not_false_eq_true, Nat.zero_le, and_self, true_and, and_true, ne_eq, not_false_eq_true, reduceIte, Nat.reduceLT, Nat.reduceLeDiff, Nat.reduceAdd, Nat.reduceMul, Nat.reduceSub, Nat.reduceEqDiff, Int.reduceLT, Int.reduceLE, Int.reduceAdd, Int.reduceSub, Int.reduceMul, Int.reduceNeg, Int.reduceToNat, Int.reduceEq, Int.reduceAbs, Int.reducePow, mkN_eq, hc]
    refine ⟨_, rfl, n + 1, by rw [List.length_cons] at e1; omega, ?_⟩
    rw [Nat.pow_succ, Int.natCast_mul]
  · rintro ρ ⟨n, e1, rfl⟩
    simp only [ev_seq, kSeq_nx, kSeq_rt, kSeq_bk, kSeq_ct, kSeq_ex, ev_nil, ev_pass, ev_break, ev_cont, ev_retn, ev_fg, fgt_nil, fgt_cons, ev_gh, kGh_some, ev_gfrz, kFrz_some, ev_gown, kOwn_full, kOwn_own, kOwn_val, ev_setZ, kSetZ_val, kSetZ_own, kSetZ_full, kSetZ_ex, ev_set, kSet_val, kSet_own, kSet_full, kSet_ex, ev_ret, kRet_val, kRet_own, kRet_full, kRet_ex, ev_retO, kRetO_own, kRetO_val, kRetO_full, ev_expr, kExpr_ok, kExpr_ex, ev_if, kIf_true, kIf_false, ev_for, kFor_ok, ev_while, ev_turn, kTurn1_some, kTurn_nx, kTurn_ct, kTurn_bk, kTurn_rt, kTurn_ex, ev_wturn, kW_true, kW_false, ev_gN, ev_gT, kT_some, itemsT_val, gSets_nil, gSets_val, mkv_int, mkv_bool, mkv_str, mkv_none, mkv_list, mkv_tuple, ev_unp, kUnp_val, kUnp_full, kU_some, ev_aug, kAug_val, kA_some, ev_app, kApp_val, kApp_own, kApp_full, ev_put, kPut_val, callF_eq, entE_nil, unds_succ, unds_zero, entE_cons, entS_int, entS_bool, entS_str, entS_none, entS_list, entS_tuple, kF_nx, kF_rt, kF_ex, frOf_val, frOf_own, frOf_full, ev_var, kVar_val, kVar_own, kVar_full, ev_c, ev_e2, k2_ok, okO_some, ev_e1, k1_ok, frz_val, frz_own, frz_full, frz_bor, frz_brf, dat_val, dat_bor, dat_brf, ev_evs0, ev_evs, kC_ok, ev_cb, kCB_ok, ev_call, kCall_ok, ev_cres, kRs_some, kRes_int, kRes_bool, kRes_str, kRes_none, kRes_list, kRes_tuple, kRes_false, kRes_exc, dats_nil, dats_cons, kD_some, isVal_val, isVal_bor, isVal_brf, ev_isa, kIsa_val, kIsa_own, kIsa_bor, kIsa_full, kIsa_brf, ev_and, kAnd_val, kAnd2_true, kAnd2_false, kAnd2_val, ev_or, kOr_val, kOr2_true, kOr2_false, kOr2_val, ev_not, kNot_val, ev_ife, kIfE_true, kIfE_false, ev_bof, kB_val, ev_tof, kTo_val, kTo_own, kTo_bor, kTo_full, kTo_brf, okB_some, truth_bool, truth_int, truth_none, truth_list, truth_tuple, ev_bnot, kNotB_ok, ev_band, kAndB_ok, kAndB2_true, kAndB2_false, kAndB2_ok, ev_bor, kOrB_ok, kOrB2_true, kOrB2_false, kOrB2_ok, ev_chain, kCh_ok, kCh2_false, kCh2_true, ev_fD, kD2_some, kS_int, kS_bool, kS_str, kS_none, ev_sub, ev_addI, ev_iadd, ev_div, ev_mod, ev_pow, ev_mulI, ev_neg, ev_eqI, ev_neI, ev_ltI, ev_leI, ev_gtI, ev_geI, ev_fD1, kD1_some, ev_int, ev_intb, ev_abs, ev_lenL, ev_lenT, ev_fI2, ev_catVV, ev_repV, ev_list, kLst_ok, ev_tup, kTup_ok, kMk_some, kMkT_some, stors_nil, stors_cons, kSt_some, stor_val, ev_ixL, ev_ixT, ev_ixB, atI_cast, atI_0, atI_1, atI_2, atI_3, atI_4, atI_5, atI_6, atI_7, ev_slice, kSl_val, kSl_own, kSl_bor, kSl_full, ev_pN, ev_pS, kP_int, ev_rev, ev_ls, ev_lsT, ev_tl, all_scal, ev_sorted, kSo_some, ev_iL, kIL_val, kIL_own, kIL_full, ev_iR, kR_1, kR_2, map_mkv_int, mkI_eq, rngI_eq, mkN_eq, ev_iR3, kR3_ok, rngC_eq, mkC_eq, ev_iM, kM_ok, kM2_some, mkEn_val, mkTp_val, ev_iZp, kZp_ok, mkZp_val, ev_lc, kLc_ok, kLcM_some, wipeE_nil, wipeE_cons, ev_byes, kE_val, kE_own, kE_full, kEl_some, kTl_some, ev_appAt, kAppAt_tuple, kAppAt_list, kAA_ok, ev_andI, ev_orI, ev_shr, ev_shl, List.getElem?_cons_zero, List.getElem?_cons_succ, List.set_cons_zero, List.set_cons_succ, List.all_nil, List.all_cons, Bool.and_true, Bool.true_and, Bool.or_true, Bool.true_or, Bool.or_false, Bool.false_or, Bool.and_false, Bool.false_and, Bool.not_true, Bool.not_false, Option.map_some, List.length_nil, List.length_cons, List.length_map, List.nil_append, List.map_cons, List.map_nil, scal_int, scal_bool, scal_str, scal_none, scal_list, scal_tuple, cd_true, cd_false, not_true_eq_false, not_false_eq_true, Nat.zero_le, and_self, true_and, and_true, ne_eq, not_false_eq_true, reduceIte, Nat.reduceLT, Nat.reduceLeDiff, Nat.reduceAdd, Nat.reduceMul, Nat.reduceSub, Nat.reduceEqDiff, Int.reduceLT, Int.reduceLE, Int.reduceAdd, Int.reduceSub, Int.reduceMul, Int.reduceNeg, Int.reduceToNat, Int.reduceEq, Int.reduceAbs, Int.reducePow]
    rw [show n = e from e1]
def B__law_digits_1 : SF := (sSeq (sSetZ 3 (e2 fAdd (eList [(e2 (fD gMod) (eCB (fD1 gInt) [(eVar 4)]) (eVar 1))]) (eVar 3)))
  (sSetZ 4 (e2 (fD gDiv) (eVar 4) (eVar 1))))
def F__law_digits : SF := (sSeq (sSetZ 3 (eList []))
  (sSeq (sSetZ 4 (eCB (fD1 gInt) [(eVar 0)]))
  (sSeq (sForD [5] (iR [(eVar 2)]) (gN 5)
  PF.B__law_digits_1)
  (sFg [4] (sRet (eVar 3))))))
def f__law_digits : FN := callF 6 F__law_digits
/-- the last n digits of k, ahead of acc -/
def dgL (s : Int) : Nat → Int → List Int → List Int
  | 0, _, acc => acc
  | n + 1, k, acc => dgL s n (k / s) (k % s :: acc)
theorem dgL_len (s : Int) : ∀ (n : Nat) (k : Int) (acc : List Int), (dgL s n k acc).length = n + acc.length
  | 0, _, acc => by simp [dgL]
  | n + 1, k, acc => by rw [dgL, dgL_len s n, List.length_cons]; omega
theorem dgL_in {s : Int} (hs : 0 < s) : ∀ (n : Nat) (k : Int) (acc : List Int), (∀ c ∈ acc, 0 ≤ c ∧ c < s) → ∀ c ∈ dgL s n k acc, 0 ≤ c ∧ c < s
  | 0, _, acc, h => h
  | n + 1, k, acc, h => by
    rw [dgL]
    refine dgL_in hs n _ _ fun c hc => ?_
    rcases List.mem_cons.mp hc with e | e
    · rw [e]; exact ⟨Int.emod_nonneg _ (by omega), Int.emod_lt_of_pos _ hs⟩
    · exact h c e
def dig (s : Int) (w : Nat) (k : Int) : List Int := dgL s w k []
theorem dig_len (s : Int) (w : Nat) (k : Int) : (dig s w k).length = w := by unfold dig; rw [dgL_len]; rfl
theorem dig_in {s : Int} (hs : 0 < s) (w : Nat) (k : Int) : ∀ c ∈ dig s w k, 0 ≤ c ∧ c < s := dgL_in hs w k [] fun c hc => (by cases hc)
theorem digits_ok (k : Int) (s w : Nat) (hs : 0 < s) (hs' : s < 1073741824) (hw : w < 16777216) : f__law_digits [.int k, .int s, .int w] = some (.ret true (.list ((dig s w k).map .int))) := by
  have h6 : small62 (w : Int) = true := small62_ok (by omega) (by omega)
  have h1 : (0 : Int) < s := by omega
  have h2 : (s : Int) < 1073741824 := by omega
  simp only [f__law_digits, F__law_digits, ev_seq, kSeq_nx, kSeq_rt, kSeq_bk, kSeq_ct, kSeq_ex, ev_nil, ev_pass, ev_break, ev_cont, ev_retn, ev_fg, fgt_nil, fgt_cons, ev_gh, kGh_some, ev_gfrz, kFrz_some, ev_gown, kOwn_full, kOwn_own, kOwn_val, ev_setZ, kSetZ_val, kSetZ_own, kSetZ_full, kSetZ_ex, ev_set, kSet_val, kSet_own, kSet_full, kSet_ex, ev_ret, kRet_val, kRet_own, kRet_full, kRet_ex, ev_retO, kRetO_own, kRetO_val, kRetO_full, ev_expr, kExpr_ok, kExpr_ex, ev_if, kIf_true, kIf_false, ev_for, kFor_ok, ev_while, ev_turn, kTurn1_some, kTurn_nx, kTurn_ct, kTurn_bk, kTurn_rt, kTurn_ex, ev_wturn, kW_true, kW_false, ev_gN, ev_gT, kT_some, itemsT_val, gSets_nil, gSets_val, mkv_int, mkv_bool, mkv_str, mkv_none, mkv_list, mkv_tuple, ev_unp, kUnp_val, kUnp_full, kU_some, ev_aug, kAug_val, kA_some, ev_app, kApp_val, kApp_own, kApp_full, ev_put, kPut_val, callF_eq, entE_nil, unds_succ, unds_zero, entE_cons, entS_int, entS_bool, entS_str, entS_none, entS_list, entS_tuple, kF_nx, kF_rt, kF_ex, frOf_val, frOf_own, frOf_full, ev_var, kVar_val, kVar_own, kVar_full, ev_c, ev_e2, k2_ok, okO_some, ev_e1, k1_ok, frz_val, frz_own, frz_full, frz_bor, frz_brf, dat_val, dat_bor, dat_brf, ev_evs0, ev_evs, kC_ok, ev_cb, kCB_ok, ev_call, kCall_ok, ev_cres, kRs_some, kRes_int, kRes_bool, kRes_str, kRes_none, kRes_list, kRes_tuple, kRes_false, kRes_exc, dats_nil, dats_cons, kD_some, isVal_val, isVal_bor, isVal_brf, ev_isa, kIsa_val, kIsa_own, kIsa_bor, kIsa_full, kIsa_brf, ev_and, kAnd_val, kAnd2_true, kAnd2_false, kAnd2_val, ev_or, kOr_val, kOr2_true, kOr2_false, kOr2_val, ev_not, kNot_val, ev_ife, kIfE_true, kIfE_false, ev_bof, kB_val, ev_tof, kTo_val, kTo_own, kTo_bor, kTo_full, kTo_brf, okB_some, truth_bool, truth_int, truth_none, truth_list, truth_tuple, ev_bnot, kNotB_ok, ev_band, kAndB_ok, kAndB2_true, kAndB2_false, kAndB2_ok, ev_bor, kOrB_ok, kOrB2_true, kOrB2_false, kOrB2_ok, ev_chain, kCh_ok, kCh2_false, kCh2_true, ev_fD, kD2_some, kS_int, kS_bool, kS_str, kS_none, ev_sub, ev_addI, ev_iadd, ev_div, ev_mod, ev_pow, ev_mulI, ev_neg, ev_eqI, ev_neI, ev_ltI, ev_leI, ev_gtI, ev_geI, ev_fD1, kD1_some, ev_int, ev_intb, ev_abs, ev_lenL, ev_lenT, ev_fI2, ev_catVV, ev_repV, ev_list, kLst_ok, ev_tup, kTup_ok, kMk_some, kMkT_some, stors_nil, stors_cons, kSt_some, stor_val, ev_ixL, ev_ixT, ev_ixB, atI_cast, atI_0, atI_1, atI_2, atI_3, atI_4, atI_5, atI_6, atI_7, ev_slice, kSl_val, kSl_own, kSl_bor, kSl_full, ev_pN, ev_pS, kP_int, ev_rev, ev_ls, ev_lsT, ev_tl, all_scal, ev_sorted, kSo_some, ev_iL, kIL_val, kIL_own, kIL_full, ev_iR, kR_1, kR_2, map_mkv_int, mkI_eq, rngI_eq, mkN_eq, ev_iR3, kR3_ok, rngC_eq, mkC_eq, ev_iM, kM_ok, kM2_some, mkEn_val, mkTp_val, ev_iZp, kZp_ok, mkZp_val, ev_lc, kLc_ok, kLcM_some, wipeE_nil, wipeE_cons, ev_byes, kE_val, kE_own, kE_full, kEl_some, kTl_some, ev_appAt, kAppAt_tuple, kAppAt_list, kAA_ok, ev_andI, ev_orI, ev_shr, ev_shl, List.getElem?_cons_zero, List.getElem?_cons_succ, List.set_cons_zero, List.set_cons_succ, List.all_nil, List.all_cons, Bool.and_true, Bool.true_and, Bool.or_true, Bool.true_or, Bool.or_false, Bool.false_or, Bool.and_false, Bool.false_and, Bool.not_true, Bool.not_false, Option.map_some, List.length_nil, List.length_cons, List.length_map, List.nil_append, List.map_cons, List.map_nil, scal_int, scal_bool, scal_str, scal_none, scal_list, scal_tuple, cd_true, cd_false, not_true_eq_false, not_false_eq_true, Nat.zero_le, and_self, true_and, and_true, ne_eq, not_false_eq_true, reduceIte, Nat.reduceLT, Nat.reduceLeDiff, Nat.reduceAdd, Nat.reduceMul, Nat.reduceSub, Nat.reduceEqDiff, Int.reduceLT, Int.reduceLE, Int.reduceAdd, Int.reduceSub, Int.reduceMul, Int.reduceNeg, Int.reduceToNat, Int.reduceEq, Int.reduceAbs, Int.reducePow, h6, rngI_eq]
  refine forT_nx (fun l ρ => ∃ acc : List Int, ∃ r : Int, dgL s l.length r acc = dig s w k ∧ acc.length + l.length = w ∧ ρ = [.val true (.int k), .val true (.int s), .val true (.int w), .val true (.list (acc.map .int)), .val true (.int r), .und]) (fun o => kF (kSeq o _) = _) ⟨[], k, ?_, ?_, rfl⟩ ?_ ?_
  · rw [List.length_range, Int.sub_zero, Int.toNat_natCast]; rfl
  · rw [List.length_range, Int.sub_zero, Int.toNat_natCast]; simp
  · rintro a l ρ ⟨acc, r, e1, e2, rfl⟩
    rw [List.length_cons] at e1 e2
    have hz : 1 + acc.length ≤ 16777216 := by omega
    simp only [B__law_digits_1, ev_seq, kSeq_nx, kSeq_rt, kSeq_bk, kSeq_ct, kSeq_ex, ev_nil, ev_pass, ev_break, ev_cont, ev_retn, ev_fg, fgt_nil, fgt_cons, ev_gh, kGh_some, ev_gfrz, kFrz_some, ev_gown, kOwn_full, kOwn_own, kOwn_val, ev_setZ, kSetZ_val, kSetZ_own, kSetZ_full, kSetZ_ex, ev_set, kSet_val, kSet_own, kSet_full, kSet_ex, ev_ret, kRet_val, kRet_own, kRet_full, kRet_ex, ev_retO, kRetO_own, kRetO_val, kRetO_full, ev_expr, kExpr_ok, kExpr_ex, ev_if, kIf_true, kIf_false, ev_for, kFor_ok, ev_while, ev_turn, kTurn1_some, kTurn_nx, kTurn_ct, kTurn_bk, kTurn_rt, kTurn_ex, ev_wturn, kW_true, kW_false, ev_gN, ev_gT, kT_some, itemsT_val, gSets_nil, gSets_val, mkv_int, mkv_bool, mkv_str, mkv_none, mkv_list, mkv_tuple, ev_unp, kUnp_val, kUnp_full, kU_some, ev_aug, kAug_val, kA_some, ev_app, kApp_val, kApp_own, kApp_full, ev_put, kPut_val, callF_eq, entE_nil, unds_succ, unds_zero, entE_cons, entS_int, entS_bool, entS_str, entS_none, entS_list, entS_tuple, kF_nx, kF_rt, kF_ex, frOf_val, frOf_own, frOf_full, ev_var, kVar_val, kVar_own, kVar_full, ev_c, ev_e2, k2_ok, okO_some, ev_e1, k1_ok, frz_val, frz_own, frz_full, frz_bor, frz_brf, dat_val, dat_bor, dat_brf, ev_evs0, ev_evs, kC_ok, ev_cb, kCB_ok, ev_call, kCall_ok, ev_cres, kRs_some, kRes_int, kRes_bool, kRes_str, kRes_none, kRes_list, kRes_tuple, kRes_false, kRes_exc, dats_nil, dats_cons, kD_some, isVal_val, isVal_bor, isVal_brf, ev_isa, kIsa_val, kIsa_own, kIsa_bor, kIsa_full, kIsa_brf, ev_and, kAnd_val, kAnd2_true, kAnd2_false, kAnd2_val, ev_or, kOr_val, kOr2_true, kOr2_false, kOr2_val, ev_not, kNot_val, ev_ife, kIfE_true, kIfE_false, ev_bof, kB_val, ev_tof, kTo_val, kTo_own, kTo_bor, kTo_full, kTo_brf, okB_some, truth_bool, truth_int, truth_none, truth_list, truth_tuple, ev_bnot, kNotB_ok, ev_band, kAndB_ok, kAndB2_true, kAndB2_false, kAndB2_ok, ev_bor, kOrB_ok, kOrB2_true, kOrB2_false, kOrB2_ok, ev_chain, kCh_ok, kCh2_false, kCh2_true, ev_fD, kD2_some, kS_int, kS_bool, kS_str, kS_none, ev_sub, ev_addI, ev_iadd, ev_div, ev_mod, ev_pow, ev_mulI, ev_neg, ev_eqI, ev_neI, ev_ltI, ev_leI, ev_gtI, ev_geI, ev_fD1, kD1_some, ev_int, ev_intb, ev_abs, ev_lenL, ev_lenT, ev_fI2, ev_catVV, ev_repV, ev_list, kLst_ok, ev_tup, kTup_ok, kMk_some, kMkT_some, stors_nil, stors_cons, kSt_some, stor_val, ev_ixL, ev_ixT, ev_ixB, atI_cast, atI_0, atI_1, atI_2, atI_3, atI_4, atI_5, atI_6, atI_7, ev_slice, kSl_val, kSl_own, kSl_bor, kSl_full, ev_pN, ev_pS, kP_int, ev_rev, ev_ls, ev_lsT, ev_tl, all_scal, ev_sorted, kSo_some, ev_iL, kIL_val, kIL_own, kIL_full, ev_iR, kR_1, kR_2, map_mkv_int, mkI_eq, rngI_eq, mkN_eq, ev_iR3, kR3_ok, rngC_eq, mkC_eq, ev_iM, kM_ok, kM2_some, mkEn_val, mkTp_val, ev_iZp, kZp_ok, mkZp_val, ev_lc, kLc_ok, kLcM_some, wipeE_nil, wipeE_cons, ev_byes, kE_val, kE_own, kE_full, kEl_some, kTl_some, ev_appAt, kAppAt_tuple, kAppAt_list, kAA_ok, ev_andI, ev_orI, ev_shr, ev_shl, List.getElem?_cons_zero, List.getElem?_cons_succ, List.set_cons_zero, List.set_cons_succ, List.all_nil, List.all_cons, Bool.and_true, Bool.true_and, Bool.or_true, Bool.true_or, Bool.or_false, Bool.false_or, Bool.and_false, Bool.false_and, Bool.not_true, Bool.not_false, Option.map_some, List.length_nil, List.length_cons, List.length_map, List.nil_append, List.map_cons, List.map_nil, scal_int, scal_bool, scal_str, scal_none, scal_list, scal_tuple, cd_true, cd_false, not_true_eq_false, not_false_eq_true, Nat.zero_le, and_self, true_and, and_true, ne_eq, not_false_eq_true, reduceIte, Nat.reduceLT, Nat.reduceLeDiff, Nat.reduceAdd, Nat.reduceMul, Nat.reduceSub, Nat.reduceEqDiff, Int.reduceLT, Int.reduceLE, Int.reduceAdd, Int.reduceSub, Int.reduceMul, Int.reduceNeg, Int.reduceToNat, Int.reduceEq, Int.reduceAbs, Int.reducePow, mkN_eq, h1, h2, Nat.zero_add, hz]
    exact ⟨_, rfl, r % s :: acc, r / s, e1, by rw [List.length_cons]; omega, rfl⟩
  · rintro ρ ⟨acc, r, e1, e2, rfl⟩
    simp only [ev_seq, kSeq_nx, kSeq_rt, kSeq_bk, kSeq_ct, kSeq_ex, ev_nil, ev_pass, ev_break, ev_cont, ev_retn, ev_fg, fgt_nil, fgt_cons, ev_gh, kGh_some, ev_gfrz, kFrz_some, ev_gown, kOwn_full, kOwn_own, kOwn_val, ev_setZ, kSetZ_val, kSetZ_own, kSetZ_full, kSetZ_ex, ev_set, kSet_val, kSet_own, kSet_full, kSet_ex, ev_ret, kRet_val, kRet_own, kRet_full, kRet_ex, ev_retO, kRetO_own, kRetO_val, kRetO_full, ev_expr, kExpr_ok, kExpr_ex, ev_if, kIf_true, kIf_false, ev_for, kFor_ok, ev_while, ev_turn, kTurn1_some, kTurn_nx, kTurn_ct, kTurn_bk, kTurn_rt, kTurn_ex, ev_wturn, kW_true, kW_false, ev_gN, ev_gT, kT_some, itemsT_val, gSets_nil, gSets_val, mkv_int, mkv_bool, mkv_str, mkv_none, mkv_list, mkv_tuple, ev_unp, kUnp_val, kUnp_full, kU_some, ev_aug, kAug_val, kA_some, ev_app, kApp_val, kApp_own, kApp_full, ev_put, kPut_val, callF_eq, entE_nil, unds_succ, unds_zero, entE_cons, entS_int, entS_bool, entS_str, entS_none, entS_list, entS_tuple, kF_nx, kF_rt, kF_ex, frOf_val, frOf_own, frOf_full, ev_var, kVar_val, kVar_own, kVar_full, ev_c, ev_e2, k2_ok, okO_some, ev_e1, k1_ok, frz_val, frz_own, frz_full, frz_bor, frz_brf, dat_val, dat_bor, dat_brf, ev_evs0, ev_evs, kC_ok, ev_cb, kCB_ok, ev_call, kCall_ok, ev_cres, kRs_some, kRes_int, kRes_bool, kRes_str, kRes_none, kRes_list, kRes_tuple, kRes_false, kRes_exc, dats_nil, dats_cons, kD_some, isVal_val, isVal_bor, isVal_brf, ev_isa, kIsa_val, kIsa_own, kIsa_bor, kIsa_full, kIsa_brf, ev_and, kAnd_val, kAnd2_true, kAnd2_false, kAnd2_val, ev_or, kOr_val, kOr2_true, kOr2_false, kOr2_val, ev_not, kNot_val, ev_ife, kIfE_true, kIfE_false, ev_bof, kB_val, ev_tof, kTo_val, kTo_own, kTo_bor, kTo_full, kTo_brf, okB_some, truth_bool, truth_int, truth_none, truth_list, truth_tuple, ev_bnot, kNotB_ok, ev_band, kAndB_ok, kAndB2_true, kAndB2_false, kAndB2_ok, ev_bor, kOrB_ok, kOrB2_true, kOrB2_false, kOrB2_ok, ev_chain, kCh_ok, kCh2_false, kCh2_true, ev_fD, kD2_some, kS_int, kS_bool, kS_str, kS_none, ev_sub, ev_addI, ev_iadd, ev_div, ev_mod, ev_pow, ev_mulI, ev_neg, ev_eqI, ev_neI, ev_ltI, ev_leI, ev_gtI, ev_geI, ev_fD1, kD1_some, ev_int, ev_intb, ev_abs, ev_lenL, ev_lenT, ev_fI2, ev_catVV, ev_repV, ev_list, kLst_ok, ev_tup, kTup_ok, kMk_some, kMkT_some, stors_nil, stors_cons, kSt_some, stor_val, ev_ixL, ev_ixT, ev_ixB, atI_cast, atI_0, atI_1, atI_2, atI_3, atI_4, atI_5, atI_6, atI_7, ev_slice, kSl_val, kSl_own, kSl_bor, kSl_full, ev_pN, ev_pS, kP_int, ev_rev, ev_ls, ev_lsT, ev_tl, all_scal, ev_sorted, kSo_some, ev_iL, kIL_val, kIL_own, kIL_full, ev_iR, kR_1, kR_2, map_mkv_int, mkI_eq, rngI_eq, mkN_eq, ev_iR3, kR3_ok, rngC_eq, mkC_eq, ev_iM, kM_ok, kM2_some, mkEn_val, mkTp_val, ev_iZp, kZp_ok, mkZp_val, ev_lc, kLc_ok, kLcM_some, wipeE_nil, wipeE_cons, ev_byes, kE_val, kE_own, kE_full, kEl_some, kTl_some, ev_appAt, kAppAt_tuple, kAppAt_list, kAA_ok, ev_andI, ev_orI, ev_shr, ev_shl, List.getElem?_cons_zero, List.getElem?_cons_succ, List.set_cons_zero, List.set_cons_succ, List.all_nil, List.all_cons, Bool.and_true, Bool.true_and, Bool.or_true, Bool.true_or, Bool.or_false, Bool.false_or, Bool.and_false, Bool.false_and, Bool.not_true, Bool.not_false, Option.map_some, List.length_nil, List.length_cons, List.length_map, List.nil_append, List.map_cons, List.map_nil, scal_int, scal_bool, scal_str, scal_none, scal_list, scal_tuple, cd_true, cd_false, not_true_eq_false, not_false_eq_true, Nat.zero_le, and_self, true_and, and_true, ne_eq, not_false_eq_true, reduceIte, Nat.reduceLT, Nat.reduceLeDiff, Nat.reduceAdd, Nat.reduceMul, Nat.reduceSub, Nat.reduceEqDiff, Int.reduceLT, Int.reduceLE, Int.reduceAdd, Int.reduceSub, Int.reduceMul, Int.reduceNeg, Int.reduceToNat, Int.reduceEq, Int.reduceAbs, Int.reducePow]
    rw [← e1]; rfl
def B__law_index_1 : SF := (sSetZ 2 (e2 fAdd (e2 fMul (eVar 2) (eVar 1)) (eVar 3)))
def F__law_index : SF := (sSeq (sSetZ 2 (eC (.int 0)))
  (sSeq (sForD [3] (iL (eVar 0)) (gN 3)
  PF.B__law_index_1)
  (sRet (eVar 2))))
def f__law_index : FN := callF 4 F__law_index
def idx (s : Int) (cs : List Int) : Int := cs.foldl (fun a c => a * s + c) 0
theorem index_ok (cs : List Int) (s : Nat) (hs : s < 18446744073709551616) : f__law_index [.list (cs.map .int), .int s] = some (.ret true (.int (idx s cs))) := by
  have hc : ∀ i : Int, cMul i s = true := fun i => cMul2 (by omega) (by omega)
  simp only [f__law_index, F__law_index, ev_seq, kSeq_nx, kSeq_rt, kSeq_bk, kSeq_ct, kSeq_ex, ev_nil, ev_pass, ev_break, ev_cont, ev_retn, ev_fg, fgt_nil, fgt_cons, ev_gh, kGh_some, ev_gfrz, kFrz_some, ev_gown, kOwn_full, kOwn_own, kOwn_val, ev_setZ, kSetZ_val, kSetZ_own, kSetZ_full, kSetZ_ex, ev_set, kSet_val, kSet_own, kSet_full, kSet_ex, ev_ret, kRet_val, kRet_own, kRet_full, kRet_ex, ev_retO, kRetO_own, kRetO_val, kRetO_full, ev_expr, kExpr_ok, kExpr_ex, ev_if, kIf_true, kIf_false, ev_for, kFor_ok, ev_while, ev_turn, kTurn1_some, kTurn_nx, kTurn_ct, kTurn_bk, kTurn_rt, kTurn_ex, ev_wturn, kW_true, kW_false, ev_gN, ev_gT, kT_some, itemsT_val, gSets_nil, gSets_val, mkv_int, mkv_bool, mkv_str, mkv_none, mkv_list, mkv_tuple, ev_unp, kUnp_val, kUnp_full, kU_some, ev_aug, kAug_val, kA_some, ev_app, kApp_val, kApp_own, kApp_full, ev_put, kPut_val, callF_eq, entE_nil, unds_succ, unds_zero, entE_cons, entS_int, entS_bool, entS_str, entS_none, entS_list, entS_tuple, kF_nx, kF_rt, kF_ex, frOf_val, frOf_own, frOf_full, ev_var, kVar_val, kVar_own, kVar_full, ev_c, ev_e2, k2_ok, okO_some, ev_e1, k1_ok, frz_val, frz_own, frz_full, frz_bor, frz_brf, dat_val, dat_bor, dat_brf, ev_evs0, ev_evs, kC_ok, ev_cb, kCB_ok, ev_call, kCall_ok, ev_cres, kRs_some, kRes_int, kRes_bool, kRes_str, kRes_none, kRes_list, kRes_tuple, kRes_false, kRes_exc, dats_nil, dats_cons, kD_some, isVal_val, isVal_bor, isVal_brf, ev_isa, kIsa_val, kIsa_own, kIsa_bor, kIsa_full, kIsa_brf, ev_and, kAnd_val, kAnd2_true, kAnd2_false, kAnd2_val, ev_or, kOr_val, kOr2_true, kOr2_false, kOr2_val, ev_not, kNot_val, ev_ife, kIfE_true, kIfE_false, ev_bof, kB_val, ev_tof, kTo_val, kTo_own, kTo_bor, kTo_full, kTo_brf, okB_some, truth_bool, truth_int, truth_none, truth_list, truth_tuple, ev_bnot, kNotB_ok, ev_band, kAndB_ok, kAndB2_true, kAndB2_false, kAndB2_ok, ev_bor, kOrB_ok, kOrB2_true, kOrB2_false, kOrB2_ok, ev_chain, kCh_ok, kCh2_false, kCh2_true, ev_fD, kD2_some, kS_int, kS_bool, kS_str, kS_none, ev_sub, ev_addI, ev_iadd, ev_div, ev_mod, ev_pow, ev_mulI, ev_neg, ev_eqI, ev_neI, ev_ltI, ev_leI, ev_gtI, ev_geI, ev_fD1, kD1_some, ev_int, ev_intb, ev_abs, ev_lenL, ev_lenT, ev_fI2, ev_catVV, ev_repV, ev_list, kLst_ok, ev_tup, kTup_ok, kMk_some, kMkT_some, stors_nil, stors_cons, kSt_some, stor_val, ev_ixL, ev_ixT, ev_ixB, atI_cast, atI_0, atI_1, atI_2, atI_3, atI_4, atI_5, atI_6, atI_7, ev_slice, kSl_val, kSl_own, kSl_bor, kSl_full, ev_pN, ev_pS, kP_int, ev_rev, ev_ls, ev_lsT, ev_tl, all_scal, ev_sorted, kSo_some, ev_iL, kIL_val, kIL_own, kIL_full, ev_iR, kR_1, kR_2, map_mkv_int, mkI_eq, rngI_eq, mkN_eq, ev_iR3, kR3_ok, rngC_eq, mkC_eq, ev_iM, kM_ok, kM2_some, mkEn_val, mkTp_val, ev_iZp, kZp_ok, mkZp_val, ev_lc, kLc_ok, kLcM_some, wipeE_nil, wipeE_cons, ev_byes, kE_val, kE_own, kE_full, kEl_some, kTl_some, ev_appAt, kAppAt_tuple, kAppAt_list, kAA_ok, ev_andI, ev_orI, ev_shr, ev_shl, List.getElem?_cons_zero, List.getElem?_cons_succ, List.set_cons_zero, List.set_cons_succ, List.all_nil, List.all_cons, Bool.and_true, Bool.true_and, Bool.or_true, Bool.true_or, Bool.or_false, Bool.false_or, Bool.and_false, Bool.false_and, Bool.not_true, Bool.not_false, Option.map_some, List.length_nil, List.length_cons, List.length_map, List.nil_append, List.map_cons, List.map_nil, scal_int, scal_bool, scal_str, scal_none, scal_list, scal_tuple, cd_true, cd_false, not_true_eq_false, not_false_eq_true, Nat.zero_le, and_self, true_and, and_true, ne_eq, not_false_eq_true, reduceIte, Nat.reduceLT, Nat.reduceLeDiff, Nat.reduceAdd, Nat.reduceMul, Nat.reduceSub, Nat.reduceEqDiff, Int.reduceLT, Int.reduceLE, Int.reduceAdd, Int.reduceSub, Int.reduceMul, Int.reduceNeg, Int.reduceToNat, Int.reduceEq, Int.reduceAbs, Int.reducePow]
  refine forT_nx (fun l ρ => ∃ a : Int, l.foldl (fun (a c : Int) => a * s + c) a = idx s cs ∧ ρ = [.val false (.list (cs.map .int)), .val true (.int s), .val true (.int a), .und]) (fun o => kF (kSeq o _) = _) ⟨0, rfl, rfl⟩ ?_ ?_
  · rintro a l ρ ⟨n, e1, rfl⟩
    simp only [B__law_index_1, ev_seq, kSeq_nx, kSeq_rt, kSeq_bk, kSeq_ct, kSeq_ex, ev_nil, ev_pass, ev_break, ev_cont, ev_retn, ev_fg, fgt_nil, fgt_cons, ev_gh, kGh_some, ev_gfrz, kFrz_some, ev_gown, kOwn_full, kOwn_own, kOwn_val, ev_setZ, kSetZ_val, kSetZ_own, kSetZ_full, kSetZ_ex, ev_set, kSet_val, kSet_own, kSet_full, kSet_ex, ev_ret, kRet_val, kRet_own, kRet_full, kRet_ex, ev_retO, kRetO_own, kRetO_val, kRetO_full, ev_expr, kExpr_ok, kExpr_ex, ev_if, kIf_true, kIf_false, ev_for, kFor_ok, ev_while, ev_turn, kTurn1_some, kTurn_nx, kTurn_ct, kTurn_bk, kTurn_rt, kTurn_ex, ev_wturn, kW_true, kW_false, ev_gN, ev_gT, kT_some, itemsT_val, gSets_nil, gSets_val, mkv_int, mkv_bool, mkv_str, mkv_none, mkv_list, mkv_tuple, ev_unp, kUnp_val, kUnp_full, kU_some, ev_aug, kAug_val, kA_some, ev_app, kApp_val, kApp_own, kApp_full, ev_put, kPut_val, callF_eq, entE_nil, unds_succ, unds_zero, entE_cons, entS_int, entS_bool, entS_str, entS_none, entS_list, entS_tuple, kF_nx, kF_rt, kF_ex, frOf_val, frOf_own, frOf_full, ev_var, kVar_val, kVar_own, kVar_full, ev_c, ev_e2, k2_ok, okO_some, ev_e1, k1_ok, frz_val, frz_own, frz_full, frz_bor, frz_brf, dat_val, dat_bor, dat_brf, ev_evs0, ev_evs, kC_ok, ev_cb, kCB_ok, ev_call, kCall_ok, ev_cres, kRs_some, kRes_int, kRes_bool, kRes_str, kRes_none, kRes_list, kRes_tuple, kRes_false, kRes_exc, dats_nil, dats_cons, kD_some, isVal_val, isVal_bor, isVal_brf, ev_isa, kIsa_val, kIsa_own, kIsa_bor, kIsa_full, kIsa_brf, ev_and, kAnd_val, kAnd2_true, kAnd2_false, kAnd2_val, ev_or, kOr_val, kOr2_true, kOr2_false, kOr2_val, ev_not, kNot_val, ev_ife, kIfE_true, kIfE_false, ev_bof, kB_val, ev_tof, kTo_val, kTo_own, kTo_bor, kTo_full, kTo_brf, okB_some, truth_bool, truth_int, truth_none, truth_list, truth_tuple, ev_bnot, kNotB_ok, ev_band, kAndB_ok, kAndB2_true, kAndB2_false, kAndB2_ok, ev_bor, kOrB_ok, kOrB2_true, kOrB2_false, kOrB2_ok, ev_chain, kCh_ok, kCh2_false, kCh2_true, ev_fD, kD2_some, kS_int, kS_bool, kS_str, kS_none, ev_sub, ev_addI, ev_iadd, ev_div, ev_mod, ev_pow, ev_mulI, ev_neg, ev_eqI, ev_neI, ev_ltI, ev_leI, ev_gtI, ev_geI, ev_fD1, kD1_some, ev_int, ev_intb, ev_abs, ev_lenL, ev_lenT, ev_fI2, ev_catVV, ev_repV, ev_list, kLst_ok, ev_tup, kTup_ok, kMk_some, kMkT_some, stors_nil, stors_cons, kSt_some, stor_val, ev_ixL, ev_ixT, ev_ixB, atI_cast, atI_0, atI_1, atI_2, atI_3, atI_4, atI_5, atI_6, atI_7, ev_slice, kSl_val, kSl_own, kSl_bor, kSl_full, ev_pN, ev_pS, kP_int, ev_rev, ev_ls, ev_lsT, ev_tl, all_scal, ev_sorted, kSo_some, ev_iL, kIL_val, kIL_own, kIL_full, ev_iR, kR_1, kR_2, map_mkv_int, mkI_eq, rngI_eq, mkN_eq, ev_iR3, kR3_ok, rngC_eq, mkC_eq, ev_iM, kM_ok, kM2_some, mkEn_val, mkTp_val, ev_iZp, kZp_ok, mkZp_val, ev_lc, kLc_ok, kLcM_some, wipeE_nil, wipeE_cons, ev_byes, kE_val, kE_own, kE_full, kEl_some, kTl_some, ev_appAt, kAppAt_tuple, kAppAt_list, kAA_ok, ev_andI, ev_orI, ev_shr, ev_shl, List.getElem?_cons_zero, List.getElem?_cons_succ, List.set_cons_zero, List.set_cons_succ, List.all_nil, List.all_cons, Bool.and_true, Bool.true_and, Bool.or_true, Bool.true_or, Bool.or_false, Bool.false_or, Bool.and_false, Bool.false_and, Bool.not_true, Bool.not_false, Option.map_some, List.length_nil, List.length_cons, List.length_map, List.nil_append, List.map_cons, List.map_nil, scal_int, scal_bool, scal_str, scal_none, scal_list, scal_tuple, cd_true, cd_false, not_true_eq_false, not_false_eq_true, Nat.zero_le, and_self, true_and, and_true, ne_eq, not_false_eq_true, reduceIte, Nat.reduceLT, Nat.reduceLeDiff, Nat.reduceAdd, Nat.reduceMul, Nat.reduceSub, Nat.reduceEqDiff, Int.reduceLT, Int.reduceLE, Int.reduceAdd, Int.reduceSub, Int.reduceMul, Int.reduceNeg, Int.reduceToNat, Int.reduceEq, Int.reduceAbs, Int.reducePow, mkI_eq, hc]
    exact ⟨_, rfl, _, e1, rfl⟩
  · rintro ρ ⟨n, e1, rfl⟩
    simp only [ev_seq, kSeq_nx, kSeq_rt, kSeq_bk, kSeq_ct, kSeq_ex, ev_nil, ev_pass, ev_break, ev_cont, ev_retn, ev_fg, fgt_nil, fgt_cons, ev_gh, kGh_some, ev_gfrz, kFrz_some, ev_gown, kOwn_full, kOwn_own, kOwn_val, ev_setZ, kSetZ_val, kSetZ_own, kSetZ_full, kSetZ_ex, ev_set, kSet_val, kSet_own, kSet_full, kSet_ex, ev_ret, kRet_val, kRet_own, kRet_full, kRet_ex, ev_retO, kRetO_own, kRetO_val, kRetO_full, ev_expr, kExpr_ok, kExpr_ex, ev_if, kIf_true, kIf_false, ev_for, kFor_ok, ev_while, ev_turn, kTurn1_some, kTurn_nx, kTurn_ct, kTurn_bk, kTurn_rt, kTurn_ex, ev_wturn, kW_true, kW_false, ev_gN, ev_gT, kT_some, itemsT_val, gSets_nil, gSets_val, mkv_int, mkv_bool, mkv_str, mkv_none, mkv_list, mkv_tuple, ev_unp, kUnp_val, kUnp_full, kU_some, ev_aug, kAug_val, kA_some, ev_app, kApp_val, kApp_own, kApp_full, ev_put, kPut_val, callF_eq, entE_nil, unds_succ, unds_zero, entE_cons, entS_int, entS_bool, entS_str, entS_none, entS_list, entS_tuple, kF_nx, kF_rt, kF_ex, frOf_val, frOf_own, frOf_full, ev_var, kVar_val, kVar_own, kVar_full, ev_c, ev_e2, k2_ok, okO_some, ev_e1, k1_ok, frz_val, frz_own, frz_full, frz_bor, frz_brf, dat_val, dat_bor, dat_brf, ev_evs0, ev_evs, kC_ok, ev_cb, kCB_ok, ev_call, kCall_ok, ev_cres, kRs_some, kRes_int, kRes_bool, kRes_str, kRes_none, kRes_list, kRes_tuple, kRes_false, kRes_exc, dats_nil, dats_cons, kD_some, isVal_val, isVal_bor, isVal_brf, ev_isa, kIsa_val, kIsa_own, kIsa_bor, kIsa_full, kIsa_brf, ev_and, kAnd_val, kAnd2_true, kAnd2_false, kAnd2_val, ev_or, kOr_val, kOr2_true, kOr2_false, kOr2_val, ev_not, kNot_val, ev_ife, kIfE_true, kIfE_false, ev_bof, kB_val, ev_tof, kTo_val, kTo_own, kTo_bor, kTo_full, kTo_brf, okB_some, truth_bool, truth_int, truth_none, truth_list, truth_tuple, ev_bnot, kNotB_ok, ev_band, kAndB_ok, kAndB2_true, kAndB2_false, kAndB2_ok, ev_bor, kOrB_ok, kOrB2_true, kOrB2_false, kOrB2_ok, ev_chain, kCh_ok, kCh2_false, kCh2_true, ev_fD, kD2_some, kS_int, kS_bool, kS_str, kS_none, ev_sub, ev_addI, ev_iadd, ev_div, ev_mod, ev_pow, ev_mulI, ev_neg, ev_eqI, ev_neI, ev_ltI, ev_leI, ev_gtI, ev_geI, ev_fD1, kD1_some, ev_int, ev_intb, ev_abs, ev_lenL, ev_lenT, ev_fI2, ev_catVV, ev_repV, ev_list, kLst_ok, ev_tup, kTup_ok, kMk_some, kMkT_some, stors_nil, stors_cons, kSt_some, stor_val, ev_ixL, ev_ixT, ev_ixB, atI_cast, atI_0, atI_1, atI_2, atI_3, atI_4, atI_5, atI_6, atI_7, ev_slice, kSl_val, kSl_own, kSl_bor, kSl_full, ev_pN, ev_pS, kP_int, ev_rev, ev_ls, ev_lsT, ev_tl, all_scal, ev_sorted, kSo_some, ev_iL, kIL_val, kIL_own, kIL_full, ev_iR, kR_1, kR_2, map_mkv_int, mkI_eq, rngI_eq, mkN_eq, ev_iR3, kR3_ok, rngC_eq, mkC_eq, ev_iM, kM_ok, kM2_some, mkEn_val, mkTp_val, ev_iZp, kZp_ok, mkZp_val, ev_lc, kLc_ok, kLcM_some, wipeE_nil, wipeE_cons, ev_byes, kE_val, kE_own, kE_full, kEl_some, kTl_some, ev_appAt, kAppAt_tuple, kAppAt_list, kAA_ok, ev_andI, ev_orI, ev_shr, ev_shl, List.getElem?_cons_zero, List.getElem?_cons_succ, List.set_cons_zero, List.set_cons_succ, List.all_nil, List.all_cons, Bool.and_true, Bool.true_and, Bool.or_true, Bool.true_or, Bool.or_false, Bool.false_or, Bool.and_false, Bool.false_and, Bool.not_true, Bool.not_false, Option.map_some, List.length_nil, List.length_cons, List.length_map, List.nil_append, List.map_cons, List.map_nil, scal_int, scal_bool, scal_str, scal_none, scal_list, scal_tuple, cd_true, cd_false, not_true_eq_false, not_false_eq_true, Nat.zero_le, and_self, true_and, and_true, ne_eq, not_false_eq_true, reduceIte, Nat.reduceLT, Nat.reduceLeDiff, Nat.reduceAdd, Nat.reduceMul, Nat.reduceSub, Nat.reduceEqDiff, Int.reduceLT, Int.reduceLE, Int.reduceAdd, Int.reduceSub, Int.reduceMul, Int.reduceNeg, Int.reduceToNat, Int.reduceEq, Int.reduceAbs, Int.reducePow]
    rw [← e1]; rfl
def F__law_cell : SF := (sSeq (sIf (bOf (e2 (fD gLt) (eVar 1) (eCB (fD1 gLen) [(eVar 0)])))
  (sRet (eCB (fD1 gInt) [(e2 fIx (eVar 0) (eVar 1))]))
  sNil)
  (sRet (eC (.int 0))))
def f__law_cell : FN := callF 2 F__law_cell
theorem cell_ok (ns : List Int) (k : Nat) : ∃ i : Int, f__law_cell [.list (ns.map .int), .int k] = some (.ret true (.int i)) := by
  by_cases h : (k : Int) < (ns.length : Nat)
  · have hk : k < ns.length := by omega
    have ha : (ns.map PyData.int)[k]? = some (.int ns[k]) := by rw [List.getElem?_map, List.getElem?_eq_getElem hk]; rfl
    simp only [f__law_cell, F__law_cell, ev_seq, kSeq_nx, kSeq_rt, kSeq_bk, kSeq_ct, kSeq_ex, ev_nil, ev_pass, ev_break, ev_cont, ev_retn, ev_fg, fgt_nil, fgt_cons, ev_gh, kGh_some, ev_gfrz, kFrz_some, ev_gown, kOwn_full, kOwn_own, kOwn_val, ev_setZ, kSetZ_val, kSetZ_own, kSetZ_full, kSetZ_ex, ev_set, kSet_val, kSet_own, kSet_full, kSet_ex, ev_ret, kRet_val, kRet_own, kRet_full, kRet_ex, ev_retO, kRetO_own, kRetO_val, kRetO_full, ev_expr, kExpr_ok, kExpr_ex, ev_if, kIf_true, kIf_false, ev_for, kFor_ok, ev_while, ev_turn, kTurn1_some, kTurn_nx, kTurn_ct, kTurn_bk, kTurn_rt, kTurn_ex, ev_wturn, kW_true, kW_false, ev_gN, ev_gT, kT_some, itemsT_val, gSets_nil, gSets_val, mkv_int, mkv_bool, mkv_str, mkv_none, mkv_list, mkv_tuple, ev_unp, kUnp_val, kUnp_full, kU_some, ev_aug, kAug_val, kA_some, ev_app, kApp_val, kApp_own, kApp_full, ev_put, kPut_val, callF_eq, entE_nil, unds_succ, unds_zero, entE_cons, entS_int, entS_bool, entS_str, entS_none, entS_list, entS_tuple, kF_nx, kF_rt, kF_ex, frOf_val, frOf_own, frOf_full, ev_var, kVar_val, kVar_own, kVar_full, ev_c, ev_e2, k2_ok, okO_some, ev_e1, k1_ok, frz_val, frz_own, frz_full, frz_bor, frz_brf, dat_val, dat_bor, dat_brf, ev_evs0, ev_evs, kC_ok, ev_cb, kCB_ok, ev_call, kCall_ok, ev_cres, kRs_some, kRes_int, kRes_bool, kRes_str, kRes_none, kRes_list, kRes_tuple, kRes_false, kRes_exc, dats_nil, dats_cons, kD_some, isVal_val, isVal_bor, isVal_brf, ev_isa, kIsa_val, kIsa_own, kIsa_bor, kIsa_full, kIsa_brf, ev_and, kAnd_val, kAnd2_true, kAnd2_false, kAnd2_val, ev_or, kOr_val, kOr2_true, kOr2_false, kOr2_val, ev_not, kNot_val, ev_ife, kIfE_true, kIfE_false, ev_bof, kB_val, ev_tof, kTo_val, kTo_own, kTo_bor, kTo_full, kTo_brf, okB_some, truth_bool, truth_int, truth_none, truth_list, truth_tuple, ev_bnot, kNotB_ok, ev_band, kAndB_ok, kAndB2_true, kAndB2_false, kAndB2_ok, ev_bor, kOrB_ok, kOrB2_true, kOrB2_false, kOrB2_ok, ev_chain, kCh_ok, kCh2_false, kCh2_true, ev_fD, kD2_some, kS_int, kS_bool, kS_str, kS_none, ev_sub, ev_addI, ev_iadd, ev_div, ev_mod, ev_pow, ev_mulI, ev_neg, ev_eqI, ev_neI, ev_ltI, ev_leI, ev_gtI, ev_geI, ev_fD1, kD1_some, ev_int, ev_intb, ev_abs, ev_lenL, ev_lenT, ev_fI2, ev_catVV, ev_repV, ev_list, kLst_ok, ev_tup, kTup_ok, kMk_some, kMkT_some, stors_nil, stors_cons, kSt_some, stor_val, ev_ixL, ev_ixT, ev_ixB, atI_cast, atI_0, atI_1, atI_2, atI_3, atI_4, atI_5, atI_6, atI_7, ev_slice, kSl_val, kSl_own, kSl_bor, kSl_full, ev_pN, ev_pS, kP_int, ev_rev, ev_ls, ev_lsT, ev_tl, all_scal, ev_sorted, kSo_some, ev_iL, kIL_val, kIL_own, kIL_full, ev_iR, kR_1, kR_2, map_mkv_int, mkI_eq, rngI_eq, mkN_eq, ev_iR3, kR3_ok, rngC_eq, mkC_eq, ev_iM, kM_ok, kM2_some, mkEn_val, mkTp_val, ev_iZp, kZp_ok, mkZp_val, ev_lc, kLc_ok, kLcM_some, wipeE_nil, wipeE_cons, ev_byes, kE_val, kE_own, kE_full, kEl_some, kTl_some, ev_appAt, kAppAt_tuple, kAppAt_list, kAA_ok, ev_andI, ev_orI, ev_shr, ev_shl, List.getElem?_cons_zero, List.getElem?_cons_succ, List.set_cons_zero, List.set_cons_succ, List.all_nil, List.all_cons, Bool.and_true, Bool.true_and, Bool.or_true, Bool.true_or, Bool.or_false, Bool.false_or, Bool.and_false, Bool.false_and, Bool.not_true, Bool.not_false, Option.map_some, List.length_nil, List.length_cons, List.length_map, List.nil_append, List.map_cons, List.map_nil, scal_int, scal_bool, scal_str, scal_none, scal_list, scal_tuple, cd_true, cd_false, not_true_eq_false, not_false_eq_true, Nat.zero_le, and_self, true_and, and_true, ne_eq, not_false_eq_true, reduceIte, Nat.reduceLT, Nat.reduceLeDiff, Nat.reduceAdd, Nat.reduceMul, Nat.reduceSub, Nat.reduceEqDiff, Int.reduceLT, Int.reduceLE, Int.reduceAdd, Int.reduceSub, Int.reduceMul, Int.reduceNeg, Int.reduceToNat, Int.reduceEq, Int.reduceAbs, Int.reducePow, h, ha]
    exact ⟨_, rfl⟩
  · simp only [f__law_cell, F__law_cell, ev_seq, kSeq_nx, kSeq_rt, kSeq_bk, kSeq_ct, kSeq_ex, ev_nil, ev_pass, ev_break, ev_cont, ev_retn, ev_fg, fgt_nil, fgt_cons, ev_gh, kGh_some, ev_gfrz, kFrz_some, ev_gown, kOwn_full, kOwn_own, kOwn_val, ev_setZ, kSetZ_val, kSetZ_own, kSetZ_full, kSetZ_ex, ev_set, kSet_val, kSet_own, kSet_full, kSet_ex, ev_ret, kRet_val, kRet_own, kRet_full, kRet_ex, ev_retO, kRetO_own, kRetO_val, kRetO_full, ev_expr, kExpr_ok, kExpr_ex, ev_if, kIf_true, kIf_false, ev_for, kFor_ok, ev_while, ev_turn, kTurn1_some, kTurn_nx, kTurn_ct, kTurn_bk, kTurn_rt, kTurn_ex, ev_wturn, kW_true, kW_false, ev_gN, ev_gT, kT_some, itemsT_val, gSets_nil, gSets_val, mkv_int, mkv_bool, mkv_str, mkv_none, mkv_list, mkv_tuple, ev_unp, kUnp_val, kUnp_full, kU_some, ev_aug, kAug_val, kA_some, ev_app, kApp_val, kApp_own, kApp_full, ev_put, kPut_val, callF_eq, entE_nil, unds_succ, unds_zero, entE_cons, entS_int, entS_bool, entS_str, entS_none, entS_list, entS_tuple, kF_nx, kF_rt, kF_ex, frOf_val, frOf_own, frOf_full, ev_var, kVar_val, kVar_own, kVar_full, ev_c, ev_e2, k2_ok, okO_some, ev_e1, k1_ok, frz_val, frz_own, frz_full, frz_bor, frz_brf, dat_val, dat_bor, dat_brf, ev_evs0, ev_evs, kC_ok, ev_cb, kCB_ok, ev_call, kCall_ok, ev_cres, kRs_some, kRes_int, kRes_bool, kRes_str, kRes_none, kRes_list, kRes_tuple, kRes_false, kRes_exc, dats_nil, dats_cons, kD_some, isVal_val, isVal_bor, isVal_brf, ev_isa, kIsa_val, kIsa_own, kIsa_bor, kIsa_full, kIsa_brf, ev_and, kAnd_val, kAnd2_true, kAnd2_false, kAnd2_val, ev_or, kOr_val, kOr2_true, kOr2_false, kOr2_val, ev_not, kNot_val, ev_ife, kIfE_true, kIfE_false, ev_bof, kB_val, ev_tof, kTo_val, kTo_own, kTo_bor, kTo_full, kTo_brf, okB_some, truth_bool, truth_int, truth_none, truth_list, truth_tuple, ev_bnot, kNotB_ok, ev_band, kAndB_ok, kAndB2_true, kAndB2_false, kAndB2_ok, ev_bor, kOrB_ok, kOrB2_true, kOrB2_false, kOrB2_ok, ev_chain, kCh_ok, kCh2_false, kCh2_true, ev_fD, kD2_some, kS_int, kS_bool, kS_str, kS_none, ev_sub, ev_addI, ev_iadd, ev_div, ev_mod, ev_pow, ev_mulI, ev_neg, ev_eqI, ev_neI, ev_ltI, ev_leI, ev_gtI, ev_geI, ev_fD1, kD1_some, ev_int, ev_intb, ev_abs, ev_lenL, ev_lenT, ev_fI2, ev_catVV, ev_repV, ev_list, kLst_ok, ev_tup, kTup_ok, kMk_some, kMkT_some, stors_nil, stors_cons, kSt_some, stor_val, ev_ixL, ev_ixT, ev_ixB, atI_cast, atI_0, atI_1, atI_2, atI_3, atI_4, atI_5, atI_6, atI_7, ev_slice, kSl_val, kSl_own, kSl_bor, kSl_full, ev_pN, ev_pS, kP_int, ev_rev, ev_ls, ev_lsT, ev_tl, all_scal, ev_sorted, kSo_some, ev_iL, kIL_val, kIL_own, kIL_full, ev_iR, kR_1, kR_2, map_mkv_int, mkI_eq, rngI_eq, mkN_eq, ev_iR3, kR3_ok, rngC_eq, mkC_eq, ev_iM, kM_ok, kM2_some, mkEn_val, mkTp_val, ev_iZp, kZp_ok, mkZp_val, ev_lc, kLc_ok, kLcM_some, wipeE_nil, wipeE_cons, ev_byes, kE_val, kE_own, kE_full, kEl_some, kTl_some, ev_appAt, kAppAt_tuple, kAppAt_list, kAA_ok, ev_andI, ev_orI, ev_shr, ev_shl, List.getElem?_cons_zero, List.getElem?_cons_succ, List.set_cons_zero, List.set_cons_succ, List.all_nil, List.all_cons, Bool.and_true, Bool.true_and, Bool.or_true, Bool.true_or, Bool.or_false, Bool.false_or, Bool.and_false, Bool.false_and, Bool.not_true, Bool.not_false, Option.map_some, List.length_nil, List.length_cons, List.length_map, List.nil_append, List.map_cons, List.map_nil, scal_int, scal_bool, scal_str, scal_none, scal_list, scal_tuple, cd_true, cd_false, not_true_eq_false, not_false_eq_true, Nat.zero_le, and_self, true_and, and_true, ne_eq, not_false_eq_true, reduceIte, Nat.reduceLT, Nat.reduceLeDiff, Nat.reduceAdd, Nat.reduceMul, Nat.reduceSub, Nat.reduceEqDiff, Int.reduceLT, Int.reduceLE, Int.reduceAdd, Int.reduceSub, Int.reduceMul, Int.reduceNeg, Int.reduceToNat, Int.reduceEq, Int.reduceAbs, Int.reducePow, h]
    exact ⟨_, rfl⟩
def C__law_table_1 : EF := (e2 fMul (e2 fIx (eVar 7) (eVar 9)) (e2 fIx (eCall PF.f__law_digits [(eVar 8), (eVar 1), (eVar 2)]) (eVar 9)))
def C__law_table_2 : EF := (e2 (fD gMod) (eCB (fD1 gInt) [(e2 fAdd (eCB (fD1 gSum) [(eLc (iR [(eVar 2)]) [9] (gN 9) bYes PF.C__law_table_1)]) (e2 fIx (eVar 7) (eVar 2)))]) (eVar 1))
def C__law_table_3 : EF := (e2 fIx (eVar 6) (e2 fIx (eCall PF.f__law_digits [(eVar 8), (eVar 1), (eVar 2)]) (e2 fIx (eVar 10) (eC (.int 0)))))
def C__law_table_4 : EF := (e2 fIx (eVar 6) (eCall PF.f__law_index [(eSl (eCall PF.f__law_digits [(eVar 8), (eVar 1), (eVar 2)]) (pS (eVar 11)) (pS (e2 fAdd (eVar 12) (eC (.int 1))))), (eVar 1)]))
def F__law_table : SF := (sSeq (sSetZ 3 (eCall PF.f__law_power [(eVar 1), (eVar 2)]))
  (sSeq (sSetZ 4 (e2 (fD gMod) (eCB (fD1 gInt) [(eVar 0)]) (eC (.int 8))))
  (sSeq (sSetZ 5 (e2 (fD gDiv) (eCB (fD1 gInt) [(eVar 0)]) (eC (.int 8))))
  (sSeq (sSetZ 6 (eCall PF.f__law_draws [(eVar 5), (e2 fMul (eList [(eVar 1)]) (eVar 3))]))
  (sSeq (sIf (bOf (e2 (fD gLt) (eVar 4) (eC (.int 3))))
  (sRet (eVar 6))
  sNil)
  (sSeq (sIf (bOf (e2 (fD gEq) (eVar 4) (eC (.int 3))))
  (sRet (e2 fMul (eList [(e2 fIx (eVar 6) (eC (.int 0)))]) (eVar 3)))
  sNil)
  (sSeq (sSetZ 7 (eCall PF.f__law_draws [(eVar 5), (e2 fMul (eList [(eVar 1)]) (e2 fAdd (eVar 2) (eC (.int 1))))]))
  (sSeq (sIf (bOf (e2 (fD gEq) (eVar 4) (eC (.int 4))))
  (sRet (eLc (iR [(eVar 3)]) [8] (gN 8) bYes PF.C__law_table_2))
  sNil)
  (sSeq (sSetZ 10 (eCall PF.f__law_draws [(eVar 5), (eList [(eVar 2), (eVar 2)])]))
  (sSeq (sIf (bOf (e2 (fD gEq) (eVar 4) (eC (.int 5))))
  (sRet (eLc (iR [(eVar 3)]) [8] (gN 8) bYes PF.C__law_table_3))
  sNil)
  (sSeq (sSetZ 11 (eCB (fD1 gMin) [(eVar 10)]))
  (sSeq (sSetZ 12 (eCB (fD1 gMax) [(eVar 10)]))
  (sRet (eLc (iR [(eVar 3)]) [8] (gN 8) bYes PF.C__law_table_4))))))))))))))
def f__law_table : FN := callF 13 F__law_table
theorem flat_rep (n : Nat) (d : PyData) : (List.replicate n [d]).flatten = List.replicate n d := by
  induction n with
  | zero => rfl
  | succ n ih => rw [List.replicate_succ, List.flatten_cons, ih]; rfl
theorem rep_int (n : Nat) (i : Int) : List.replicate n (PyData.int i) = (List.replicate n i).map .int := by rw [List.map_replicate]
theorem Below.mem : ∀ {rs ls : List Int}, Below rs ls → ∀ r ∈ rs, ∃ l ∈ ls, 0 ≤ r ∧ r < l
  | [], [], _, r, h => by cases h
  | a :: rs, b :: ls, h, r, hr => by
    rcases List.mem_cons.mp hr with e | e
    · rw [e]; exact ⟨b, List.mem_cons_self, h.1, h.2.1⟩
    · obtain ⟨l, h1, h2⟩ := h.2.2.mem r e; exact ⟨l, List.mem_cons_of_mem _ h1, h2⟩
  | [], _ :: _, h, _, _ => h.elim
  | _ :: _, [], h, _, _ => h.elim
theorem Below.rep {rs : List Int} {n : Nat} {s : Int} (h : Below rs (List.replicate n s)) : rs.length = n ∧ ∀ r ∈ rs, 0 ≤ r ∧ r < s := by
  refine ⟨by rw [h.length, List.length_replicate], fun r hr => ?_⟩
  obtain ⟨l, h1, h2⟩ := h.mem r hr
  rw [List.eq_of_mem_replicate h1] at h2
  exact h2
/-- the drawn numbers, all below s -/
theorem draws_rep (c : Int) (n s : Nat) (hs : 0 < s) (hs' : s < 1073741824) (hn : n < 16777216) : ∃ rs : List Int, f__law_draws [.int c, .list (List.replicate n (.int (s : Int)))] = some (.ret true (.list (rs.map .int))) ∧ rs.length = n ∧ ∀ r ∈ rs, 0 ≤ r ∧ r < s := by
  obtain ⟨rs, h1, h2⟩ := draws_ok c (List.replicate n (s : Int)) (fun l hl => by rw [List.eq_of_mem_replicate hl]; omega) (by rw [List.length_replicate]; exact hn)
  rw [← rep_int] at h1
  exact ⟨rs, h1, h2.rep⟩
theorem idx_bound {s : Int} (hs : 0 < s) : ∀ (cs : List Int) (a : Int) (n : Nat), 0 ≤ a → a < s ^ n → (∀ c ∈ cs, 0 ≤ c ∧ c < s) → 0 ≤ cs.foldl (fun a c => a * s + c) a ∧ cs.foldl (fun a c => a * s + c) a < s ^ (n + cs.length)
  | [], a, n, h0, h1, _ => ⟨h0, h1⟩
  | c :: cs, a, n, h0, h1, h => by
    have hc := h c List.mem_cons_self
    have := idx_bound hs cs (a * s + c) (n + 1) (by have := Int.mul_nonneg h0 (Int.le_of_lt hs); omega) (by
      rw [Int.pow_succ]
      have : (a + 1) * s ≤ s ^ n * s := Int.mul_le_mul_of_nonneg_right (by omega) (Int.le_of_lt hs)
      rw [Int.add_mul, Int.one_mul] at this
      omega) (fun d hd => h d (List.mem_cons_of_mem _ hd))
    rw [List.foldl_cons, List.length_cons, show n + (cs.length + 1) = n + 1 + cs.length by omega]
    exact this
theorem idx_lt {s : Int} (hs : 0 < s) {cs : List Int} (h : ∀ c ∈ cs, 0 ≤ c ∧ c < s) : 0 ≤ idx s cs ∧ idx s cs < s ^ cs.length := by
  have := idx_bound hs cs 0 0 (Int.le_refl _) (by simp) h
  rwa [Nat.zero_add] at this
theorem at_mem {xs : List Int} {k : Nat} (h : k < xs.length) : (xs.map PyData.int)[k]? = some (.int xs[k]) := by rw [List.getElem?_map, List.getElem?_eq_getElem h]; rfl
theorem cutD_nat {ds : List PyData} (a b : Nat) : PL.cutD ds (some (a : Int)) (some (b : Int)) = (ds.drop a).take (b - a) := by
  unfold PL.cutD
  rw [HT.sIx_nat, HT.sIx_nat]
  by_cases h : a ≤ ds.length
  · rw [Nat.min_eq_left h]
    by_cases h2 : b ≤ ds.length
    · rw [Nat.min_eq_left h2]
    · rw [Nat.min_eq_right (by omega), List.take_of_length_le (by rw [List.length_drop]; omega), List.take_of_length_le (by rw [List.length_drop]; omega)]
  · rw [show min a ds.length = ds.length by omega, List.drop_of_length_le (Nat.le_refl _), List.drop_of_length_le (by omega), List.take_nil, List.take_nil]
theorem lmin_in {ns : List Int} {P : Int → Prop} (hn : ns ≠ []) (h : ∀ n ∈ ns, P n) : P (lmin ns) ∧ ∀ n ∈ ns, lmin ns ≤ n := ⟨h _ (lmin_mem hn).1, (lmin_mem hn).2⟩
theorem table_ok (c : Int) (s w : Nat) (hs : 0 < s) (hs' : s < 1073741824) (hw : 0 < w) (hw' : w < 1000000) (hN : s ^ w < 16777216) : ∃ t : List Int, f__law_table [.int c, .int s, .int w] = some (.ret true (.list (t.map .int))) ∧ t.length = s ^ w ∧ ∀ r ∈ t, 0 ≤ r ∧ r < s := by
  have hp := power_ok s w (by omega) (by omega)
  obtain ⟨dr, d1, d2, d3⟩ := draws_rep (c / 8) (s ^ w) s hs hs' hN
  have b1 : (-9223372036854775808 : Int) ≤ ((s ^ w : Nat) : Int) := by omega
  have b2 : ((s ^ w : Nat) : Int) < 9223372036854775808 := by omega
  have b3 : 1 * s ^ w ≤ 16777216 := by omega
  have n0 : 0 < s ^ w := Nat.pow_pos hs
  have i0 : 0 < dr.length := by omega
  have r1 : small62 ((s ^ w : Nat) : Int) = true := small62_ok (by omega) (by omega)
  have r2 : small62 (w : Int) = true := small62_ok (by omega) (by omega)
  have hsI : (0 : Int) < s := by omega
  have hdig := fun k : Int => digits_ok k s w hs hs' (by omega)
  by_cases k3 : c % 8 < 3
  · simp only [f__law_table, F__law_table, ev_seq, kSeq_nx, kSeq_rt, kSeq_bk, kSeq_ct, kSeq_ex, ev_nil, ev_pass, ev_break, ev_cont, ev_retn, ev_fg, fgt_nil, fgt_cons, ev_gh, kGh_some, ev_gfrz, kFrz_some, ev_gown, kOwn_full, kOwn_own, kOwn_val, ev_setZ, kSetZ_val, kSetZ_own, kSetZ_full, kSetZ_ex, ev_set, kSet_val, kSet_own, kSet_full, kSet_ex, ev_ret, kRet_val, kRet_own, kRet_full, kRet_ex, ev_retO, kRetO_own, kRetO_val, kRetO_full, ev_expr, kExpr_ok, kExpr_ex, ev_if, kIf_true, kIf_false, ev_for, kFor_ok, ev_while, ev_turn, kTurn1_some, kTurn_nx, kTurn_ct, kTurn_bk, kTurn_rt, kTurn_ex, ev_wturn, kW_true, kW_false, ev_gN, ev_gT, kT_some, itemsT_val, gSets_nil, gSets_val, mkv_int, mkv_bool, mkv_str, mkv_none, mkv_list, mkv_tuple, ev_unp, kUnp_val, kUnp_full, kU_some, ev_aug, kAug_val, kA_some, ev_app, kApp_val, kApp_own, kApp_full, ev_put, kPut_val, callF_eq, entE_nil, unds_succ, unds_zero, entE_cons, entS_int, entS_bool, entS_str, entS_none, entS_list, entS_tuple, kF_nx, kF_rt, kF_ex, frOf_val, frOf_own, frOf_full, ev_var, kVar_val, kVar_own, kVar_full, ev_c, ev_e2, k2_ok, okO_some, ev_e1, k1_ok, frz_val, frz_own, frz_full, frz_bor, frz_brf, dat_val, dat_bor, dat_brf, ev_evs0, ev_evs, kC_ok, ev_cb, kCB_ok, ev_call, kCall_ok, ev_cres, kRs_some, kRes_int, kRes_bool, kRes_str, kRes_none, kRes_list, kRes_tuple, kRes_false, kRes_exc, dats_nil, dats_cons, kD_some, isVal_val, isVal_bor, isVal_brf, ev_isa, kIsa_val, kIsa_own, kIsa_bor, kIsa_full, kIsa_brf, ev_and, kAnd_val, kAnd2_true, kAnd2_false, kAnd2_val, ev_or, kOr_val, kOr2_true, kOr2_false, kOr2_val, ev_not, kNot_val, ev_ife, kIfE_true, kIfE_false, ev_bof, kB_val, ev_tof, kTo_val, kTo_own, kTo_bor, kTo_full, kTo_brf, okB_some, truth_bool, truth_int, truth_none, truth_list, truth_tuple, ev_bnot, kNotB_ok, ev_band, kAndB_ok, kAndB2_true, kAndB2_false, kAndB2_ok, ev_bor, kOrB_ok, kOrB2_true, kOrB2_false, kOrB2_ok, ev_chain, kCh_ok, kCh2_false, kCh2_true, ev_fD, kD2_some, kS_int, kS_bool, kS_str, kS_none, ev_sub, ev_addI, ev_iadd, ev_div, ev_mod, ev_pow, ev_mulI, ev_neg, ev_eqI, ev_neI, ev_ltI, ev_leI, ev_gtI, ev_geI, ev_fD1, kD1_some, ev_int, ev_intb, ev_abs, ev_lenL, ev_lenT, ev_fI2, ev_catVV, ev_repV, ev_list, kLst_ok, ev_tup, kTup_ok, kMk_some, kMkT_some, stors_nil, stors_cons, kSt_some, stor_val, ev_ixL, ev_ixT, ev_ixB, atI_cast, atI_0, atI_1, atI_2, atI_3, atI_4, atI_5, atI_6, atI_7, ev_slice, kSl_val, kSl_own, kSl_bor, kSl_full, ev_pN, ev_pS, kP_int, ev_rev, ev_ls, ev_lsT, ev_tl, all_scal, ev_sorted, kSo_some, ev_iL, kIL_val, kIL_own, kIL_full, ev_iR, kR_1, kR_2, map_mkv_int, mkI_eq, rngI_eq, mkN_eq, ev_iR3, kR3_ok, rngC_eq, mkC_eq, ev_iM, kM_ok, kM2_some, mkEn_val, mkTp_val, ev_iZp, kZp_ok, mkZp_val, ev_lc, kLc_ok, kLcM_some, wipeE_nil, wipeE_cons, ev_byes, kE_val, kE_own, kE_full, kEl_some, kTl_some, ev_appAt, kAppAt_tuple, kAppAt_list, kAA_ok, ev_andI, ev_orI, ev_shr, ev_shl, List.getElem?_cons_zero, List.getElem?_cons_succ, List.set_cons_zero, List.set_cons_succ, List.all_nil, List.all_cons, Bool.and_true, Bool.true_and, Bool.or_true, Bool.true_or, Bool.or_false, Bool.false_or, Bool.and_false, Bool.false_and, Bool.not_true, Bool.not_false, Option.map_some, List.length_nil, List.length_cons, List.length_map, List.nil_append, List.map_cons, List.map_nil, scal_int, scal_bool, scal_str, scal_none, scal_list, scal_tuple, cd_true, cd_false, not_true_eq_false, not_false_eq_true, Nat.zero_le, and_self, true_and, and_true, ne_eq, not_false_eq_true, reduceIte, Nat.reduceLT, Nat.reduceLeDiff, Nat.reduceAdd, Nat.reduceMul, Nat.reduceSub, Nat.reduceEqDiff, Int.reduceLT, Int.reduceLE, Int.reduceAdd, Int.reduceSub, Int.reduceMul, Int.reduceNeg, Int.reduceToNat, Int.reduceEq, Int.reduceAbs, Int.reducePow, hp, d1, flat_rep, Int.toNat_natCast, b1, b2, b3, k3]
    exact ⟨dr, rfl, d2, d3⟩
  by_cases k4 : c % 8 = 3
  · simp only [f__law_table, F__law_table, ev_seq, kSeq_nx, kSeq_rt, kSeq_bk, kSeq_ct, kSeq_ex, ev_nil, ev_pass, ev_break, ev_cont, ev_retn, ev_fg, fgt_nil, fgt_cons, ev_gh, kGh_some, ev_gfrz, kFrz_some, ev_gown, kOwn_full, kOwn_own, kOwn_val, ev_setZ, kSetZ_val, kSetZ_own, kSetZ_full, kSetZ_ex, ev_set, kSet_val, kSet_own, kSet_full, kSet_ex, ev_ret, kRet_val, kRet_own, kRet_full, kRet_ex, ev_retO, kRetO_own, kRetO_val, kRetO_full, ev_expr, kExpr_ok, kExpr_ex, ev_if, kIf_true, kIf_false, ev_for, kFor_ok, ev_while, ev_turn, kTurn1_some, kTurn_nx, kTurn_ct, kTurn_bk, kTurn_rt, kTurn_ex, ev_wturn, kW_true, kW_false, ev_gN, ev_gT, kT_some, itemsT_val, gSets_nil, gSets_val, mkv_int, mkv_bool, mkv_str, mkv_none, mkv_list, mkv_tuple, ev_unp, kUnp_val, kUnp_full, kU_some, ev_aug, kAug_val, kA_some, ev_app, kApp_val, kApp_own, kApp_full, ev_put, kPut_val, callF_eq, entE_nil, unds_succ, unds_zero, entE_cons, entS_int, entS_bool, entS_str, entS_none, entS_list, entS_tuple, kF_nx, kF_rt, kF_ex, frOf_val, frOf_own, frOf_full, ev_var, kVar_val, kVar_own, kVar_full, ev_c, ev_e2, k2_ok, okO_some, ev_e1, k1_ok, frz_val, frz_own, frz_full, frz_bor, frz_brf, dat_val, dat_bor, dat_brf, ev_evs0, ev_evs, kC_ok, ev_cb, kCB_ok, ev_call, kCall_ok, ev_cres, kRs_some, kRes_int, kRes_bool, kRes_str, kRes_none, kRes_list, kRes_tuple, kRes_false, kRes_exc, dats_nil, dats_cons, kD_some, isVal_val, isVal_bor, isVal_brf, ev_isa, kIsa_val, kIsa_own, kIsa_bor, kIsa_full, kIsa_brf, ev_and, kAnd_val, kAnd2_true, kAnd2_false, kAnd2_val, ev_or, kOr_val, kOr2_true, kOr2_false, kOr2_val, ev_not, kNot_val, ev_ife, kIfE_true, kIfE_false, ev_bof, kB_val, ev_tof, kTo_val, kTo_own, kTo_bor, kTo_full, kTo_brf, okB_some, truth_bool, truth_int, truth_none, truth_list, truth_tuple, ev_bnot, kNotB_ok, ev_band, kAndB_ok, kAndB2_true, kAndB2_false, kAndB2_ok, ev_bor, kOrB_ok, kOrB2_true, kOrB2_false, kOrB2_ok, ev_chain, kCh_ok, kCh2_false, kCh2_true, ev_fD, kD2_some, kS_int, kS_bool, kS_str, kS_none, ev_sub, ev_addI, ev_iadd, ev_div, ev_mod, ev_pow, ev_mulI, ev_neg, ev_eqI, ev_neI, ev_ltI, ev_leI, ev_gtI, ev_geI, ev_fD1, kD1_some, ev_int, ev_intb, ev_abs, ev_lenL, ev_lenT, ev_fI2, ev_catVV, ev_repV, ev_list, kLst_ok, ev_tup, kTup_ok, kMk_some, kMkT_some, stors_nil, stors_cons, kSt_some, stor_val, ev_ixL, ev_ixT, ev_ixB, atI_cast, atI_0, atI_1, atI_2, atI_3, atI_4, atI_5, atI_6, atI_7, ev_slice, kSl_val, kSl_own, kSl_bor, kSl_full, ev_pN, ev_pS, kP_int, ev_rev, ev_ls, ev_lsT, ev_tl, all_scal, ev_sorted, kSo_some, ev_iL, kIL_val, kIL_own, kIL_full, ev_iR, kR_1, kR_2, map_mkv_int, mkI_eq, rngI_eq, mkN_eq, ev_iR3, kR3_ok, rngC_eq, mkC_eq, ev_iM, kM_ok, kM2_some, mkEn_val, mkTp_val, ev_iZp, kZp_ok, mkZp_val, ev_lc, kLc_ok, kLcM_some, wipeE_nil, wipeE_cons, ev_byes, kE_val, kE_own, kE_full, kEl_some, kTl_some, ev_appAt, kAppAt_tuple, kAppAt_list, kAA_ok, ev_andI, ev_orI, ev_shr, ev_shl, List.getElem?_cons_zero, List.getElem?_cons_succ, List.set_cons_zero, List.set_cons_succ, List.all_nil, List.all_cons, Bool.and_true, Bool.true_and, Bool.or_true, Bool.true_or, Bool.or_false, Bool.false_or, Bool.and_false, Bool.false_and, Bool.not_true, Bool.not_false, Option.map_some, List.length_nil, List.length_cons, List.length_map, List.nil_append, List.map_cons, List.map_nil, scal_int, scal_bool, scal_str, scal_none, scal_list, scal_tuple, cd_true, cd_false, not_true_eq_false, not_false_eq_true, Nat.zero_le, and_self, true_and, and_true, ne_eq, not_false_eq_true, reduceIte, Nat.reduceLT, Nat.reduceLeDiff, Nat.reduceAdd, Nat.reduceMul, Nat.reduceSub, Nat.reduceEqDiff, Int.reduceLT, Int.reduceLE, Int.reduceAdd, Int.reduceSub, Int.reduceMul, Int.reduceNeg, Int.reduceToNat, Int.reduceEq, Int.reduceAbs, Int.reducePow, hp, d1, flat_rep, Int.toNat_natCast, b1, b2, b3, k3, k4, atI_0, at_mem i0, Int.reduceLT]
    refine ⟨List.replicate (s ^ w) dr[0], by rw [← rep_int], List.length_replicate, fun r hr => ?_⟩
    rw [List.eq_of_mem_replicate hr]
    exact d3 _ (List.getElem_mem i0)
  have e1 : ((w : Int) + 1) = ((w + 1 : Nat) : Int) := by omega
  obtain ⟨fc, f1, f2, f3⟩ := draws_rep (c / 8) (w + 1) s hs hs' (by omega)
  have b4 : (-9223372036854775808 : Int) ≤ ((w + 1 : Nat) : Int) := by omega
  have b5 : ((w + 1 : Nat) : Int) < 9223372036854775808 := by omega
  have b6 : 1 * (w + 1) ≤ 16777216 := by omega
  have b7 : s ^ w ≤ 16777216 := by omega
  have b8 : w ≤ 16777216 := by omega
  by_cases k5 : c % 8 = 4
  · obtain ⟨t, t1, t2, t3⟩ := lcL_ints (t := gN 8) (elt := C__law_table_2) (ρ := [.val true (.int c), .val true (.int s), .val true (.int w), .val true (.int ((s ^ w : Nat) : Int)), .val true (.int 4), .val true (.int (c / 8)), .val true (.list (dr.map .int)), .val true (.list (fc.map .int)), .und, .und, .und, .und, .und]) (mk := mkN 0) (Q := fun i => 0 ≤ i ∧ i < (s : Int)) (List.range (s ^ w)) (fun k hk => by
      obtain ⟨u, u1, u2, u3⟩ := lcL_ints (t := gN 9) (elt := C__law_table_1) (ρ := [.val true (.int c), .val true (.int s), .val true (.int w), .val true (.int ((s ^ w : Nat) : Int)), .val true (.int 4), .val true (.int (c / 8)), .val true (.list (dr.map .int)), .val true (.list (fc.map .int)), .val true (.int (0 + (k : Int))), .und, .und, .und, .und]) (mk := mkN 0) (Q := fun _ => True) (List.range w) (fun j hj => by
        rw [List.mem_range] at hj
        have j1 : j < fc.length := by omega
        have j2 : j < (dig s w (k : Int)).length := by rw [dig_len]; exact hj
        have m1 : cMul fc[j] (dig s w (k : Int))[j] = true := cMul1 (by have := f3 _ (List.getElem_mem j1); omega) (by have := f3 _ (List.getElem_mem j1); omega)
        simp only [C__law_table_1, ev_seq, kSeq_nx, kSeq_rt, kSeq_bk, kSeq_ct, kSeq_ex, ev_nil, ev_pass, ev_break, ev_cont, ev_retn, ev_fg, fgt_nil, fgt_cons, ev_gh, kGh_some, ev_gfrz, kFrz_some, ev_gown, kOwn_full, kOwn_own, kOwn_val, ev_setZ, kSetZ_val, kSetZ_own, kSetZ_full, kSetZ_ex, ev_set, kSet_val, kSet_own, kSet_full, kSet_ex, ev_ret, kRet_val, kRet_own, kRet_full, kRet_ex, ev_retO, kRetO_own, kRetO_val, kRetO_full, ev_expr, kExpr_ok, kExpr_ex, ev_if, kIf_true, kIf_false, ev_for, kFor_ok, ev_while, ev_turn, kTurn1_some, kTurn_nx, kTurn_ct, kTurn_bk, kTurn_rt, kTurn_ex, ev_wturn, kW_true, kW_false, ev_gN, ev_gT, kT_some, itemsT_val, gSets_nil, gSets_val, mkv_int, mkv_bool, mkv_str, mkv_none, mkv_list, mkv_tuple, ev_unp, kUnp_val, kUnp_full, kU_some, ev_aug, kAug_val, kA_some, ev_app, kApp_val, kApp_own, kApp_full, ev_put, kPut_val, callF_eq, entE_nil, unds_succ, unds_zero, entE_cons, entS_int, entS_bool, entS_str, entS_none, entS_list, entS_tuple, kF_nx, kF_rt, kF_ex, frOf_val, frOf_own, frOf_full, ev_var, kVar_val, kVar_own, kVar_full, ev_c, ev_e2, k2_ok, okO_some, ev_e1, k1_ok, frz_val, frz_own, frz_full, frz_bor, frz_brf, dat_val, dat_bor, dat_brf, ev_evs0, ev_evs, kC_ok, ev_cb, kCB_ok, ev_call, kCall_ok, ev_cres, kRs_some, kRes_int, kRes_bool, kRes_str, kRes_none, kRes_list, kRes_tuple, kRes_false, kRes_exc, dats_nil, dats_cons, kD_some, isVal_val, isVal_bor, isVal_brf, ev_isa, kIsa_val, kIsa_own, kIsa_bor, kIsa_full, kIsa_brf, ev_and, kAnd_val, kAnd2_true, kAnd2_false, kAnd2_val, ev_or, kOr_val, kOr2_true, kOr2_false, kOr2_val, ev_not, kNot_val, ev_ife, kIfE_true, kIfE_false, ev_bof, kB_val, ev_tof, kTo_val, kTo_own, kTo_bor, kTo_full, kTo_brf, okB_some, truth_bool, truth_int, truth_none, truth_list, truth_tuple, ev_bnot, kNotB_ok, ev_band, kAndB_ok, kAndB2_true, kAndB2_false, kAndB2_ok, ev_bor, kOrB_ok, kOrB2_true, kOrB2_false, kOrB2_ok, ev_chain, kCh_ok, kCh2_false, kCh2_true, ev_fD, kD2_some, kS_int, kS_bool, kS_str, kS_none, ev_sub, ev_addI, ev_iadd, ev_div, ev_mod, ev_pow, ev_mulI, ev_neg, ev_eqI, ev_neI, ev_ltI, ev_leI, ev_gtI, ev_geI, ev_fD1, kD1_some, ev_int, ev_intb, ev_abs, ev_lenL, ev_lenT, ev_fI2, ev_catVV, ev_repV, ev_list, kLst_ok, ev_tup, kTup_ok, kMk_some, kMkT_some, stors_nil, stors_cons, kSt_some, stor_val, ev_ixL, ev_ixT, ev_ixB, atI_cast, atI_0, atI_1, atI_2, atI_3, atI_4, atI_5, atI_6, atI_7, ev_slice, kSl_val, kSl_own, kSl_bor, kSl_full, ev_pN, ev_pS, kP_int, ev_rev, ev_ls, ev_lsT, ev_tl, all_scal, ev_sorted, kSo_some, ev_iL, kIL_val, kIL_own, kIL_full, ev_iR, kR_1, kR_2, map_mkv_int, mkI_eq, rngI_eq, mkN_eq, ev_iR3, kR3_ok, rngC_eq, mkC_eq, ev_iM, kM_ok, kM2_some, mkEn_val, mkTp_val, ev_iZp, kZp_ok, mkZp_val, ev_lc, kLc_ok, kLcM_some, wipeE_nil, wipeE_cons, ev_byes, kE_val, kE_own, kE_full, kEl_some, kTl_some, ev_appAt, kAppAt_tuple, kAppAt_list, kAA_ok, ev_andI, ev_orI, ev_shr, ev_shl, List.getElem?_cons_zero, List.getElem?_cons_succ, List.set_cons_zero, List.set_cons_succ, List.all_nil, List.all_cons, Bool.and_true, Bool.true_and, Bool.or_true, Bool.true_or, Bool.or_false, Bool.false_or, Bool.and_false, Bool.false_and, Bool.not_true, Bool.not_false, Option.map_some, List.length_nil, List.length_cons, List.length_map, List.nil_append, List.map_cons, List.map_nil, scal_int, scal_bool, scal_str, scal_none, scal_list, scal_tuple, cd_true, cd_false, not_true_eq_false, not_false_eq_true, Nat.zero_le, and_self, true_and, and_true, ne_eq, not_false_eq_true, reduceIte, Nat.reduceLT, Nat.reduceLeDiff, Nat.reduceAdd, Nat.reduceMul, Nat.reduceSub, Nat.reduceEqDiff, Int.reduceLT, Int.reduceLE, Int.reduceAdd, Int.reduceSub, Int.reduceMul, Int.reduceNeg, Int.reduceToNat, Int.reduceEq, Int.reduceAbs, Int.reducePow, mkN_eq, hdig, Int.zero_add, at_mem j1, at_mem j2, m1]
        exact ⟨_, rfl⟩)
      have j1 : w < fc.length := by omega
      have u4 : u.length ≤ 16777216 := by rw [u2, List.length_range]; omega
      simp only [C__law_table_2, ev_seq, kSeq_nx, kSeq_rt, kSeq_bk, kSeq_ct, kSeq_ex, ev_nil, ev_pass, ev_break, ev_cont, ev_retn, ev_fg, fgt_nil, fgt_cons, ev_gh, kGh_some, ev_gfrz, kFrz_some, ev_gown, kOwn_full, kOwn_own, kOwn_val, ev_setZ, kSetZ_val, kSetZ_own, kSetZ_full, kSetZ_ex, ev_set, kSet_val, kSet_own, kSet_full, kSet_ex, ev_ret, kRet_val, kRet_own, kRet_full, kRet_ex, ev_retO, kRetO_own, kRetO_val, kRetO_full, ev_expr, kExpr_ok, kExpr_ex, ev_if, kIf_true, kIf_false, ev_for, kFor_ok, ev_while, ev_turn, kTurn1_some, kTurn_nx, kTurn_ct, kTurn_bk, kTurn_rt, kTurn_ex, ev_wturn, kW_true, kW_false, ev_gN, ev_gT, kT_some, itemsT_val, gSets_nil, gSets_val, mkv_int, mkv_bool, mkv_str, mkv_none, mkv_list, mkv_tuple, ev_unp, kUnp_val, kUnp_full, kU_some, ev_aug, kAug_val, kA_some, ev_app, kApp_val, kApp_own, kApp_full, ev_put, kPut_val, callF_eq, entE_nil, unds_succ, unds_zero, entE_cons, entS_int, entS_bool, entS_str, entS_none, entS_list, entS_tuple, kF_nx, kF_rt, kF_ex, frOf_val, frOf_own, frOf_full, ev_var, kVar_val, kVar_own, kVar_full, ev_c, ev_e2, k2_ok, okO_some, ev_e1, k1_ok, frz_val, frz_own, frz_full, frz_bor, frz_brf, dat_val, dat_bor, dat_brf, ev_evs0, ev_evs, kC_ok, ev_cb, kCB_ok, ev_call, kCall_ok, ev_cres, kRs_some, kRes_int, kRes_bool, kRes_str, kRes_none, kRes_list, kRes_tuple, kRes_false, kRes_exc, dats_nil, dats_cons, kD_some, isVal_val, isVal_bor, isVal_brf, ev_isa, kIsa_val, kIsa_own, kIsa_bor, kIsa_full, kIsa_brf, ev_and, kAnd_val, kAnd2_true, kAnd2_false, kAnd2_val, ev_or, kOr_val, kOr2_true, kOr2_false, kOr2_val, ev_not, kNot_val, ev_ife, kIfE_true, kIfE_false, ev_bof, kB_val, ev_tof, kTo_val, kTo_own, kTo_bor, kTo_full, kTo_brf, okB_some, truth_bool, truth_int, truth_none, truth_list, truth_tuple, ev_bnot, kNotB_ok, ev_band, kAndB_ok, kAndB2_true, kAndB2_false, kAndB2_ok, ev_bor, kOrB_ok, kOrB2_true, kOrB2_false, kOrB2_ok, ev_chain, kCh_ok, kCh2_false, kCh2_true, ev_fD, kD2_some, kS_int, kS_bool, kS_str, kS_none, ev_sub, ev_addI, ev_iadd, ev_div, ev_mod, ev_pow, ev_mulI, ev_neg, ev_eqI, ev_neI, ev_ltI, ev_leI, ev_gtI, ev_geI, ev_fD1, kD1_some, ev_int, ev_intb, ev_abs, ev_lenL, ev_lenT, ev_fI2, ev_catVV, ev_repV, ev_list, kLst_ok, ev_tup, kTup_ok, kMk_some, kMkT_some, stors_nil, stors_cons, kSt_some, stor_val, ev_ixL, ev_ixT, ev_ixB, atI_cast, atI_0, atI_1, atI_2, atI_3, atI_4, atI_5, atI_6, atI_7, ev_slice, kSl_val, kSl_own, kSl_bor, kSl_full, ev_pN, ev_pS, kP_int, ev_rev, ev_ls, ev_lsT, ev_tl, all_scal, ev_sorted, kSo_some, ev_iL, kIL_val, kIL_own, kIL_full, ev_iR, kR_1, kR_2, map_mkv_int, mkI_eq, rngI_eq, mkN_eq, ev_iR3, kR3_ok, rngC_eq, mkC_eq, ev_iM, kM_ok, kM2_some, mkEn_val, mkTp_val, ev_iZp, kZp_ok, mkZp_val, ev_lc, kLc_ok, kLcM_some, wipeE_nil, wipeE_cons, ev_byes, kE_val, kE_own, kE_full, kEl_some, kTl_some, ev_appAt, kAppAt_tuple, kAppAt_list, kAA_ok, ev_andI, ev_orI, ev_shr, ev_shl, List.getElem?_cons_zero, List.getElem?_cons_succ, List.set_cons_zero, List.set_cons_succ, List.all_nil, List.all_cons, Bool.and_true, Bool.true_and, Bool.or_true, Bool.true_or, Bool.or_false, Bool.false_or, Bool.and_false, Bool.false_and, Bool.not_true, Bool.not_false, Option.map_some, List.length_nil, List.length_cons, List.length_map, List.nil_append, List.map_cons, List.map_nil, scal_int, scal_bool, scal_str, scal_none, scal_list, scal_tuple, cd_true, cd_false, not_true_eq_false, not_false_eq_true, Nat.zero_le, and_self, true_and, and_true, ne_eq, not_false_eq_true, reduceIte, Nat.reduceLT, Nat.reduceLeDiff, Nat.reduceAdd, Nat.reduceMul, Nat.reduceSub, Nat.reduceEqDiff, Int.reduceLT, Int.reduceLE, Int.reduceAdd, Int.reduceSub, Int.reduceMul, Int.reduceNeg, Int.reduceToNat, Int.reduceEq, Int.reduceAbs, Int.reducePow, mkN_eq, rngI_eq, r2, Int.sub_zero, Int.toNat_natCast, u1, u4, gSum, intsD_map, at_mem j1, hsI]
      exact ⟨_, rfl, Int.emod_nonneg _ (by omega), Int.emod_lt_of_pos _ hsI⟩)
    rw [List.length_range] at t2
    have t4 : t.length ≤ 16777216 := by omega
    simp only [f__law_table, F__law_table, ev_seq, kSeq_nx, kSeq_rt, kSeq_bk, kSeq_ct, kSeq_ex, ev_nil, ev_pass, ev_break, ev_cont, ev_retn, ev_fg, fgt_nil, fgt_cons, ev_gh, kGh_some, ev_gfrz, kFrz_some, ev_gown, kOwn_full, kOwn_own, kOwn_val, ev_setZ, kSetZ_val, kSetZ_own, kSetZ_full, kSetZ_ex, ev_set, kSet_val, kSet_own, kSet_full, kSet_ex, ev_ret, kRet_val, kRet_own, kRet_full, kRet_ex, ev_retO, kRetO_own, kRetO_val, kRetO_full, ev_expr, kExpr_ok, kExpr_ex, ev_if, kIf_true, kIf_false, ev_for, kFor_ok, ev_while, ev_turn, kTurn1_some, kTurn_nx, kTurn_ct, kTurn_bk, kTurn_rt, kTurn_ex, ev_wturn, kW_true, kW_false, ev_gN, ev_gT, kT_some, itemsT_val, gSets_nil, gSets_val, mkv_int, mkv_bool, mkv_str, mkv_none, mkv_list, mkv_tuple, ev_unp, kUnp_val, kUnp_full, kU_some, ev_aug, kAug_val, kA_some, ev_app, kApp_val, kApp_own, kApp_full, ev_put, kPut_val, callF_eq, entE_nil, unds_succ, unds_zero, entE_cons, entS_int, entS_bool, entS_str, entS_none, entS_list, entS_tuple, kF_nx, kF_rt, kF_ex, frOf_val, frOf_own, frOf_full, ev_var, kVar_val, kVar_own, kVar_full, ev_c, ev_e2, k2_ok, okO_some, ev_e1, k1_ok, frz_val, frz_own, frz_full, frz_bor, frz_brf, dat_val, dat_bor, dat_brf, ev_evs0, ev_evs, kC_ok, ev_cb, kCB_ok, ev_call, kCall_ok, ev_cres, kRs_some, kRes_int, kRes_bool, kRes_str, kRes_none, kRes_list, kRes_tuple, kRes_false, kRes_exc, dats_nil, dats_cons, kD_some, isVal_val, isVal_bor, isVal_brf, ev_isa, kIsa_val, kIsa_own, kIsa_bor, kIsa_full, kIsa_brf, ev_and, kAnd_val, kAnd2_true, kAnd2_false, kAnd2_val, ev_or, kOr_val, kOr2_true, kOr2_false, kOr2_val, ev_not, kNot_val, ev_ife, kIfE_true, kIfE_false, ev_bof, kB_val, ev_tof, kTo_val, kTo_own, kTo_bor, kTo_full, kTo_brf, okB_some, truth_bool, truth_int, truth_none, truth_list, truth_tuple, ev_bnot, kNotB_ok, ev_band, kAndB_ok, kAndB2_true, kAndB2_false, kAndB2_ok, ev_bor, kOrB_ok, kOrB2_true, kOrB2_false, kOrB2_ok, ev_chain, kCh_ok, kCh2_false, kCh2_true, ev_fD, kD2_some, kS_int, kS_bool, kS_str, kS_none, ev_sub, ev_addI, ev_iadd, ev_div, ev_mod, ev_pow, ev_mulI, ev_neg, ev_eqI, ev_neI, ev_ltI, ev_leI, ev_gtI, ev_geI, ev_fD1, kD1_some, ev_int, ev_intb, ev_abs, ev_lenL, ev_lenT, ev_fI2, ev_catVV, ev_repV, ev_list, kLst_ok, ev_tup, kTup_ok, kMk_some, kMkT_some, stors_nil, stors_cons, kSt_some, stor_val, ev_ixL, ev_ixT, ev_ixB, atI_cast, atI_0, atI_1, atI_2, atI_3, atI_4, atI_5, atI_6, atI_7, ev_slice, kSl_val, kSl_own, kSl_bor, kSl_full, ev_pN, ev_pS, kP_int, ev_rev, ev_ls, ev_lsT, ev_tl, all_scal, ev_sorted, kSo_some, ev_iL, kIL_val, kIL_own, kIL_full, ev_iR, kR_1, kR_2, map_mkv_int, mkI_eq, rngI_eq, mkN_eq, ev_iR3, kR3_ok, rngC_eq, mkC_eq, ev_iM, kM_ok, kM2_some, mkEn_val, mkTp_val, ev_iZp, kZp_ok, mkZp_val, ev_lc, kLc_ok, kLcM_some, wipeE_nil, wipeE_cons, ev_byes, kE_val, kE_own, kE_full, kEl_some, kTl_some, ev_appAt, kAppAt_tuple, kAppAt_list, kAA_ok, ev_andI, ev_orI, ev_shr, ev_shl, List.getElem?_cons_zero, List.getElem?_cons_succ, List.set_cons_zero, List.set_cons_succ, List.all_nil, List.all_cons, Bool.and_true, Bool.true_and, Bool.or_true, Bool.true_or, Bool.or_false, Bool.false_or, Bool.and_false, Bool.false_and, Bool.not_true, Bool.not_false, Option.map_some, List.length_nil, List.length_cons, List.length_map, List.nil_append, List.map_cons, List.map_nil, scal_int, scal_bool, scal_str, scal_none, scal_list, scal_tuple, cd_true, cd_false, not_true_eq_false, not_false_eq_true, Nat.zero_le, and_self, true_and, and_true, ne_eq, not_false_eq_true, reduceIte, Nat.reduceLT, Nat.reduceLeDiff, Nat.reduceAdd, Nat.reduceMul, Nat.reduceSub, Nat.reduceEqDiff, Int.reduceLT, Int.reduceLE, Int.reduceAdd, Int.reduceSub, Int.reduceMul, Int.reduceNeg, Int.reduceToNat, Int.reduceEq, Int.reduceAbs, Int.reducePow, hp, d1, flat_rep, Int.toNat_natCast, b1, b2, b3, k3, k4, k5, e1, f1, b4, b5, b6, rngI_eq, r1, Int.sub_zero, t1, t4]
    exact ⟨t, rfl, t2, t3⟩
  have w0 : (0 : Int) < w ∧ (w : Int) < 1073741824 := by omega
  obtain ⟨pl, p1, p2⟩ := draws_ok (c / 8) [(w : Int), w] (fun l hl => by
    rcases List.mem_cons.mp hl with e | e
    · rw [e]; exact w0
    · rcases List.mem_cons.mp e with e | e
      · rw [e]; exact w0
      · cases e) (by simp)
  obtain ⟨q0, q1, rfl⟩ : ∃ q0 q1, pl = [q0, q1] := by
    have := p2.length
    match pl, this with
    | [a, b], _ => exact ⟨a, b, rfl⟩
  obtain ⟨x1, x2, x3, x4, -⟩ := p2
  simp only [List.map_cons, List.map_nil] at p1
  by_cases k6 : c % 8 = 5
  · obtain ⟨n0', rfl⟩ := Int.eq_ofNat_of_zero_le x1
    obtain ⟨t, t1, t2, t3⟩ := lcL_ints (t := gN 8) (elt := C__law_table_3) (ρ := [.val true (.int c), .val true (.int s), .val true (.int w), .val true (.int ((s ^ w : Nat) : Int)), .val true (.int 5), .val true (.int (c / 8)), .val true (.list (dr.map .int)), .val true (.list (fc.map .int)), .und, .und, .val true (.list [.int n0', .int q1]), .und, .und]) (mk := mkN 0) (Q := fun i => 0 ≤ i ∧ i < (s : Int)) (List.range (s ^ w)) (fun k hk => by
      have j2 : n0' < (dig s w (k : Int)).length := by rw [dig_len]; omega
      have j3 := dig_in hsI w (k : Int) _ (List.getElem_mem j2)
      obtain ⟨m, hm⟩ := Int.eq_ofNat_of_zero_le j3.1
      have j4 : m < dr.length := by
        rw [d2]
        have : s ^ 1 ≤ s ^ w := Nat.pow_le_pow_right hs hw
        rw [Nat.pow_one] at this
        omega
      have j5 := at_mem j2
      rw [hm] at j5
      simp only [C__law_table_3, ev_seq, kSeq_nx, kSeq_rt, kSeq_bk, kSeq_ct, kSeq_ex, ev_nil, ev_pass, ev_break, ev_cont, ev_retn, ev_fg, fgt_nil, fgt_cons, ev_gh, kGh_some, ev_gfrz, kFrz_some, ev_gown, kOwn_full, kOwn_own, kOwn_val, ev_setZ, kSetZ_val, kSetZ_own, kSetZ_full, kSetZ_ex, ev_set, kSet_val, kSet_own, kSet_full, kSet_ex, ev_ret, kRet_val, kRet_own, kRet_full, kRet_ex, ev_retO, kRetO_own, kRetO_val, kRetO_full, ev_expr, kExpr_ok, kExpr_ex, ev_if, kIf_true, kIf_false, ev_for, kFor_ok, ev_while, ev_turn, kTurn1_some, kTurn_nx, kTurn_ct, kTurn_bk, kTurn_rt, kTurn_ex, ev_wturn, kW_true, kW_false, ev_gN, ev_gT, kT_some, itemsT_val, gSets_nil, gSets_val, mkv_int, mkv_bool, mkv_str, mkv_none, mkv_list, mkv_tuple, ev_unp, kUnp_val, kUnp_full, kU_some, ev_aug, kAug_val, kA_some, ev_app, kApp_val, kApp_own, kApp_full, ev_put, kPut_val, callF_eq, entE_nil, unds_succ, unds_zero, entE_cons, entS_int, entS_bool, entS_str, entS_none, entS_list, entS_tuple, kF_nx, kF_rt, kF_ex, frOf_val, frOf_own, frOf_full, ev_var, kVar_val, kVar_own, kVar_full, ev_c, ev_e2, k2_ok, okO_some, ev_e1, k1_ok, frz_val, frz_own, frz_full, frz_bor, frz_brf, dat_val, dat_bor, dat_brf, ev_evs0, ev_evs, kC_ok, ev_cb, kCB_ok, ev_call, kCall_ok, ev_cres, kRs_some, kRes_int, kRes_bool, kRes_str, kRes_none, kRes_list, kRes_tuple, kRes_false, kRes_exc, dats_nil, dats_cons, kD_some, isVal_val, isVal_bor, isVal_brf, ev_isa, kIsa_val, kIsa_own, kIsa_bor, kIsa_full, kIsa_brf, ev_and, kAnd_val, kAnd2_true, kAnd2_false, kAnd2_val, ev_or, kOr_val, kOr2_true, kOr2_false, kOr2_val, ev_not, kNot_val, ev_ife, kIfE_true, kIfE_false, ev_bof, kB_val, ev_tof, kTo_val, kTo_own, kTo_bor, kTo_full, kTo_brf, okB_some, truth_bool, truth_int, truth_none, truth_list, truth_tuple, ev_bnot, kNotB_ok, ev_band, kAndB_ok, kAndB2_true, kAndB2_false, kAndB2_ok, ev_bor, kOrB_ok, kOrB2_true, kOrB2_false, kOrB2_ok, ev_chain, kCh_ok, kCh2_false, kCh2_true, ev_fD, kD2_some, kS_int, kS_bool, kS_str, kS_none, ev_sub, ev_addI, ev_iadd, ev_div, ev_mod, ev_pow, ev_mulI, ev_neg, ev_eqI, ev_neI, ev_ltI, ev_leI, ev_gtI, ev_geI, ev_fD1, kD1_some, ev_int, ev_intb, ev_abs, ev_lenL, ev_lenT, ev_fI2, ev_catVV, ev_repV, ev_list, kLst_ok, ev_tup, kTup_ok, kMk_some, kMkT_some, stors_nil, stors_cons, kSt_some, stor_val, ev_ixL, ev_ixT, ev_ixB, atI_cast, atI_0, atI_1, atI_2, atI_3, atI_4, atI_5, atI_6, atI_7, ev_slice, kSl_val, kSl_own, kSl_bor, kSl_full, ev_pN, ev_pS, kP_int, ev_rev, ev_ls, ev_lsT, ev_tl, all_scal, ev_sorted, kSo_some, ev_iL, kIL_val, kIL_own, kIL_full, ev_iR, kR_1, kR_2, map_mkv_int, mkI_eq, rngI_eq, mkN_eq, ev_iR3, kR3_ok, rngC_eq, mkC_eq, ev_iM, kM_ok, kM2_some, mkEn_val, mkTp_val, ev_iZp, kZp_ok, mkZp_val, ev_lc, kLc_ok, kLcM_some, wipeE_nil, wipeE_cons, ev_byes, kE_val, kE_own, kE_full, kEl_some, kTl_some, ev_appAt, kAppAt_tuple, kAppAt_list, kAA_ok, ev_andI, ev_orI, ev_shr, ev_shl, List.getElem?_cons_zero, List.getElem?_cons_succ, List.set_cons_zero, List.set_cons_succ, List.all_nil, List.all_cons, Bool.and_true, Bool.true_and, Bool.or_true, Bool.true_or, Bool.or_false, Bool.false_or, Bool.and_false, Bool.false_and, Bool.not_true, Bool.not_false, Option.map_some, List.length_nil, List.length_cons, List.length_map, List.nil_append, List.map_cons, List.map_nil, scal_int, scal_bool, scal_str, scal_none, scal_list, scal_tuple, cd_true, cd_false, not_true_eq_false, not_false_eq_true, Nat.zero_le, and_self, true_and, and_true, ne_eq, not_false_eq_true, reduceIte, Nat.reduceLT, Nat.reduceLeDiff, Nat.reduceAdd, Nat.reduceMul, Nat.reduceSub, Nat.reduceEqDiff, Int.reduceLT, Int.reduceLE, Int.reduceAdd, Int.reduceSub, Int.reduceMul, Int.reduceNeg, Int.reduceToNat, Int.reduceEq, Int.reduceAbs, Int.reducePow, mkN_eq, hdig, Int.zero_add, atI_0, j5, at_mem j4]
      exact ⟨_, rfl, d3 _ (List.getElem_mem j4)⟩)
    rw [List.length_range] at t2
    have t4 : t.length ≤ 16777216 := by omega
    simp only [f__law_table, F__law_table, ev_seq, kSeq_nx, kSeq_rt, kSeq_bk, kSeq_ct, kSeq_ex, ev_nil, ev_pass, ev_break, ev_cont, ev_retn, ev_fg, fgt_nil, fgt_cons, ev_gh, kGh_some, ev_gfrz, kFrz_some, ev_gown, kOwn_full, kOwn_own, kOwn_val, ev_setZ, kSetZ_val, kSetZ_own, kSetZ_full, kSetZ_ex, ev_set, kSet_val, kSet_own, kSet_full, kSet_ex, ev_ret, kRet_val, kRet_own, kRet_full, kRet_ex, ev_retO, kRetO_own, kRetO_val, kRetO_full, ev_expr, kExpr_ok, kExpr_ex, ev_if, kIf_true, kIf_false, ev_for, kFor_ok, ev_while, ev_turn, kTurn1_some, kTurn_nx, kTurn_ct, kTurn_bk, kTurn_rt, kTurn_ex, ev_wturn, kW_true, kW_false, ev_gN, ev_gT, kT_some, itemsT_val, gSets_nil, gSets_val, mkv_int, mkv_bool, mkv_str, mkv_none, mkv_list, mkv_tuple, ev_unp, kUnp_val, kUnp_full, kU_some, ev_aug, kAug_val, kA_some, ev_app, kApp_val, kApp_own, kApp_full, ev_put, kPut_val, callF_eq, entE_nil, unds_succ, unds_zero, entE_cons, entS_int, entS_bool, entS_str, entS_none, entS_list, entS_tuple, kF_nx, kF_rt, kF_ex, frOf_val, frOf_own, frOf_full, ev_var, kVar_val, kVar_own, kVar_full, ev_c, ev_e2, k2_ok, okO_some, ev_e1, k1_ok, frz_val, frz_own, frz_full, frz_bor, frz_brf, dat_val, dat_bor, dat_brf, ev_evs0, ev_evs, kC_ok, ev_cb, kCB_ok, ev_call, kCall_ok, ev_cres, kRs_some, kRes_int, kRes_bool, kRes_str, kRes_none, kRes_list, kRes_tuple, kRes_false, kRes_exc, dats_nil, dats_cons, kD_some, isVal_val, isVal_bor, isVal_brf, ev_isa, kIsa_val, kIsa_own, kIsa_bor, kIsa_full, kIsa_brf, ev_and, kAnd_val, kAnd2_true, kAnd2_false, kAnd2_val, ev_or, kOr_val, kOr2_true, kOr2_false, kOr2_val, ev_not, kNot_val, ev_ife, kIfE_true, kIfE_false, ev_bof, kB_val, ev_tof, kTo_val, kTo_own, kTo_bor, kTo_full, kTo_brf, okB_some, truth_bool, truth_int, truth_none, truth_list, truth_tuple, ev_bnot, kNotB_ok, ev_band, kAndB_ok, kAndB2_true, kAndB2_false, kAndB2_ok, ev_bor, kOrB_ok, kOrB2_true, kOrB2_false, kOrB2_ok, ev_chain, kCh_ok, kCh2_false, kCh2_true, ev_fD, kD2_some, kS_int, kS_bool, kS_str, kS_none, ev_sub, ev_addI, ev_iadd, ev_div, ev_mod, ev_pow, ev_mulI, ev_neg, ev_eqI, ev_neI, ev_ltI, ev_leI, ev_gtI, ev_geI, ev_fD1, kD1_some, ev_int, ev_intb, ev_abs, ev_lenL, ev_lenT, ev_fI2, ev_catVV, ev_repV, ev_list, kLst_ok, ev_tup, kTup_ok, kMk_some, kMkT_some, stors_nil, stors_cons, kSt_some, stor_val, ev_ixL, ev_ixT, ev_ixB, atI_cast, atI_0, atI_1, atI_2, atI_3, atI_4, atI_5, atI_6, atI_7, ev_slice, kSl_val, kSl_own, kSl_bor, kSl_full, ev_pN, ev_pS, kP_int, ev_rev, ev_ls, ev_lsT, ev_tl, all_scal, ev_sorted, kSo_some, ev_iL, kIL_val, kIL_own, kIL_full, ev_iR, kR_1, kR_2, map_mkv_int, mkI_eq, rngI_eq, mkN_eq, ev_iR3, kR3_ok, rngC_eq, mkC_eq, ev_iM, kM_ok, kM2_some, mkEn_val, mkTp_val, ev_iZp, kZp_ok, mkZp_val, ev_lc, kLc_ok, kLcM_some, wipeE_nil, wipeE_cons, ev_byes, kE_val, kE_own, kE_full, kEl_some, kTl_some, ev_appAt, kAppAt_tuple, kAppAt_list, kAA_ok, ev_andI, ev_orI, ev_shr, ev_shl, List.getElem?_cons_zero, List.getElem?_cons_succ, List.set_cons_zero, List.set_cons_succ, List.all_nil, List.all_cons, Bool.and_true, Bool.true_and, Bool.or_true, Bool.true_or, Bool.or_false, Bool.false_or, Bool.and_false, Bool.false_and, Bool.not_true, Bool.not_false, Option.map_some, List.length_nil, List.length_cons, List.length_map, List.nil_append, List.map_cons, List.map_nil, scal_int, scal_bool, scal_str, scal_none, scal_list, scal_tuple, cd_true, cd_false, not_true_eq_false, not_false_eq_true, Nat.zero_le, and_self, true_and, and_true, ne_eq, not_false_eq_true, reduceIte, Nat.reduceLT, Nat.reduceLeDiff, Nat.reduceAdd, Nat.reduceMul, Nat.reduceSub, Nat.reduceEqDiff, Int.reduceLT, Int.reduceLE, Int.reduceAdd, Int.reduceSub, Int.reduceMul, Int.reduceNeg, Int.reduceToNat, Int.reduceEq, Int.reduceAbs, Int.reducePow, hp, d1, flat_rep, Int.toNat_natCast, b1, b2, b3, k3, k4, k5, k6, e1, f1, b4, b5, b6, p1, rngI_eq, r1, Int.sub_zero, t1, t4]
    exact ⟨t, rfl, t2, t3⟩
  have lm : ∀ n ∈ [q0, q1], 0 ≤ n ∧ n < (w : Int) := fun n hn => by
    rcases List.mem_cons.mp hn with e | e
    · rw [e]; exact ⟨x1, x2⟩
    · rcases List.mem_cons.mp e with e | e
      · rw [e]; exact ⟨x3, x4⟩
      · cases e
  obtain ⟨lo, hlo⟩ := Int.eq_ofNat_of_zero_le (lm _ (lmin_mem (ns := [q0, q1]) (by simp)).1).1
  obtain ⟨hi, hhi⟩ := Int.eq_ofNat_of_zero_le (lm _ (lmax_mem (ns := [q0, q1]) (by simp)).1).1
  have hiw := (lm _ (lmax_mem (ns := [q0, q1]) (by simp)).1).2
  have g1 : gMin (.list [.int q0, .int q1]) = some (.int (lo : Int)) := by rw [← hlo]; rfl
  have g2 : gMax (.list [.int q0, .int q1]) = some (.int (hi : Int)) := by rw [← hhi]; rfl
  have e2 : ((hi : Int) + 1) = ((hi + 1 : Nat) : Int) := by omega
  have sm : s < 18446744073709551616 := by omega
  obtain ⟨t, t1, t2, t3⟩ := lcL_ints (t := gN 8) (elt := C__law_table_4) (ρ := [.val true (.int c), .val true (.int s), .val true (.int w), .val true (.int ((s ^ w : Nat) : Int)), .val true (.int (c % 8)), .val true (.int (c / 8)), .val true (.list (dr.map .int)), .val true (.list (fc.map .int)), .und, .und, .val true (.list [.int q0, .int q1]), .val true (.int lo), .val true (.int hi)]) (mk := mkN 0) (Q := fun i => 0 ≤ i ∧ i < (s : Int)) (List.range (s ^ w)) (fun k hk => by
    have j3 : ∀ x ∈ ((dig s w (k : Int)).drop lo).take (hi + 1 - lo), 0 ≤ x ∧ x < (s : Int) := fun x hx => dig_in hsI w (k : Int) x (List.mem_of_mem_drop (List.mem_of_mem_take hx))
    have j6 := idx_lt hsI j3
    obtain ⟨m, hm⟩ := Int.eq_ofNat_of_zero_le j6.1
    have j4 : m < dr.length := by
      rw [d2]
      have l1 : (((dig s w (k : Int)).drop lo).take (hi + 1 - lo)).length ≤ w := by
        rw [List.length_take, List.length_drop, dig_len]; omega
      have l2 : s ^ (((dig s w (k : Int)).drop lo).take (hi + 1 - lo)).length ≤ s ^ w := Nat.pow_le_pow_right hs l1
      have l3 := j6.2
      rw [hm] at l3
      have l4 : (m : Int) < ((s ^ (((dig s w (k : Int)).drop lo).take (hi + 1 - lo)).length : Nat) : Int) := by rw [Int.natCast_pow]; exact l3
      omega
    have j7 := index_ok (((dig s w (k : Int)).drop lo).take (hi + 1 - lo)) s sm
    rw [hm, List.map_take, List.map_drop] at j7
    simp only [C__law_table_4, ev_seq, kSeq_nx, kSeq_rt, kSeq_bk, kSeq_ct, kSeq_ex, ev_nil, ev_pass, ev_break, ev_cont, ev_retn, ev_fg, fgt_nil, fgt_cons, ev_gh, kGh_some, ev_gfrz, kFrz_some, ev_gown, kOwn_full, kOwn_own, kOwn_val, ev_setZ, kSetZ_val, kSetZ_own, kSetZ_full, kSetZ_ex, ev_set, kSet_val, kSet_own, kSet_full, kSet_ex, ev_ret, kRet_val, kRet_own, kRet_full, kRet_ex, ev_retO, kRetO_own, kRetO_val, kRetO_full, ev_expr, kExpr_ok, kExpr_ex, ev_if, kIf_true, kIf_false, ev_for, kFor_ok, ev_while, ev_turn, kTurn1_some, kTurn_nx, kTurn_ct, kTurn_bk, kTurn_rt, kTurn_ex, ev_wturn, kW_true, kW_false, ev_gN, ev_gT, kT_some, itemsT_val, gSets_nil, gSets_val, mkv_int, mkv_bool, mkv_str, mkv_none, mkv_list, mkv_tuple, ev_unp, kUnp_val, kUnp_full, kU_some, ev_aug, kAug_val, kA_some, ev_app, kApp_val, kApp_own, kApp_full, ev_put, kPut_val, callF_eq, entE_nil, unds_succ, unds_zero, entE_cons, entS_int, entS_bool, entS_str, entS_none, entS_list, entS_tuple, kF_nx, kF_rt, kF_ex, frOf_val, frOf_own, frOf_full, ev_var, kVar_val, kVar_own, kVar_full, ev_c, ev_e2, k2_ok, okO_some, ev_e1, k1_ok, frz_val, frz_own, frz_full, frz_bor, frz_brf, dat_val, dat_bor, dat_brf, ev_evs0, ev_evs, kC_ok, ev_cb, kCB_ok, ev_call, kCall_ok, ev_cres, kRs_some, kRes_int, kRes_bool, kRes_str, kRes_none, kRes_list, kRes_tuple, kRes_false, kRes_exc, dats_nil, dats_cons, kD_some, isVal_val, isVal_bor, isVal_brf, ev_isa, kIsa_val, kIsa_own, kIsa_bor, kIsa_full, kIsa_brf, ev_and, kAnd_val, kAnd2_true, kAnd2_false, kAnd2_val, ev_or, kOr_val, kOr2_true, kOr2_false, kOr2_val, ev_not, kNot_val, ev_ife, kIfE_true, kIfE_false, ev_bof, kB_val, ev_tof, kTo_val, kTo_own, kTo_bor, kTo_full, kTo_brf, okB_some, truth_bool, truth_int, truth_none, truth_list, truth_tuple, ev_bnot, kNotB_ok, ev_band, kAndB_ok, kAndB2_true, kAndB2_false, kAndB2_ok, ev_bor, kOrB_ok, kOrB2_true, kOrB2_false, kOrB2_ok, ev_chain, kCh_ok, kCh2_false, kCh2_true, ev_fD, kD2_some, kS_int, kS_bool, kS_str, kS_none, ev_sub, ev_addI, ev_iadd, ev_div, ev_mod, ev_pow, ev_mulI, ev_neg, ev_eqI, ev_neI, ev_ltI, ev_leI, ev_gtI, ev_geI, ev_fD1, kD1_some, ev_int, ev_intb, ev_abs, ev_lenL, ev_lenT, ev_fI2, ev_catVV, ev_repV, ev_list, kLst_ok, ev_tup, kTup_ok, kMk_some, kMkT_some, stors_nil, stors_cons, kSt_some, stor_val, ev_ixL, ev_ixT, ev_ixB, atI_cast, atI_0, atI_1, atI_2, atI_3, atI_4, atI_5, atI_6, atI_7, ev_slice, kSl_val, kSl_own, kSl_bor, kSl_full, ev_pN, ev_pS, kP_int, ev_rev, ev_ls, ev_lsT, ev_tl, all_scal, ev_sorted, kSo_some, ev_iL, kIL_val, kIL_own, kIL_full, ev_iR, kR_1, kR_2, map_mkv_int, mkI_eq, rngI_eq, mkN_eq, ev_iR3, kR3_ok, rngC_eq, mkC_eq, ev_iM, kM_ok, kM2_some, mkEn_val, mkTp_val, ev_iZp, kZp_ok, mkZp_val, ev_lc, kLc_ok, kLcM_some, wipeE_nil, wipeE_cons, ev_byes, kE_val, kE_own, kE_full, kEl_some, kTl_some, ev_appAt, kAppAt_tuple, kAppAt_list, kAA_ok, ev_andI, ev_orI, ev_shr, ev_shl, List.getElem?_cons_zero, List.getElem?_cons_succ, List.set_cons_zero, List.set_cons_succ, List.all_nil, List.all_cons, Bool.and_true, Bool.true_and, Bool.or_true, Bool.true_or, Bool.or_false, Bool.false_or, Bool.and_false, Bool.false_and, Bool.not_true, Bool.not_false, Option.map_some, List.length_nil, List.length_cons, List.length_map, List.nil_append, List.map_cons, List.map_nil, scal_int, scal_bool, scal_str, scal_none, scal_list, scal_tuple, cd_true, cd_false, not_true_eq_false, not_false_eq_true, Nat.zero_le, and_self, true_and, and_true, ne_eq, not_false_eq_true, reduceIte, Nat.reduceLT, Nat.reduceLeDiff, Nat.reduceAdd, Nat.reduceMul, Nat.reduceSub, Nat.reduceEqDiff, Int.reduceLT, Int.reduceLE, Int.reduceAdd, Int.reduceSub, Int.reduceMul, Int.reduceNeg, Int.reduceToNat, Int.reduceEq, Int.reduceAbs, Int.reducePow, mkN_eq, hdig, Int.zero_add, e2, cutD_nat, j7, at_mem j4]
    exact ⟨_, rfl, d3 _ (List.getElem_mem j4)⟩)
  rw [List.length_range] at t2
  have t4 : t.length ≤ 16777216 := by omega
  simp only [f__law_table, F__law_table, ev_seq, kSeq_nx, kSeq_rt, kSeq_bk, kSeq_ct, kSeq_ex, ev_nil, ev_pass, ev_break, ev_cont, ev_retn, ev_fg, fgt_nil, fgt_cons, ev_gh, kGh_some, ev_gfrz, kFrz_some, ev_gown, kOwn_full, kOwn_own, kOwn_val, ev_setZ, kSetZ_val, kSetZ_own, kSetZ_full, kSetZ_ex, ev_set, kSet_val, kSet_own, kSet_full, kSet_ex, ev_ret, kRet_val, kRet_own, kRet_full, kRet_ex, ev_retO, kRetO_own, kRetO_val, kRetO_full, ev_expr, kExpr_ok, kExpr_ex, ev_if, kIf_true, kIf_false, ev_for, kFor_ok, ev_while, ev_turn, kTurn1_some, kTurn_nx, kTurn_ct, kTurn_bk, kTurn_rt, kTurn_ex, ev_wturn, kW_true, kW_false, ev_gN, ev_gT, kT_some, itemsT_val, gSets_nil, gSets_val, mkv_int, mkv_bool, mkv_str, mkv_none, mkv_list, mkv_tuple, ev_unp, kUnp_val, kUnp_full, kU_some, ev_aug, kAug_val, kA_some, ev_app, kApp_val, kApp_own, kApp_full, ev_put, kPut_val, callF_eq, entE_nil, unds_succ, unds_zero, entE_cons, entS_int, entS_bool, entS_str, entS_none, entS_list, entS_tuple, kF_nx, kF_rt, kF_ex, frOf_val, frOf_own, frOf_full, ev_var, kVar_val, kVar_own, kVar_full, ev_c, ev_e2, k2_ok, okO_some, ev_e1, k1_ok, frz_val, frz_own, frz_full, frz_bor, frz_brf, dat_val, dat_bor, dat_brf, ev_evs0, ev_evs, kC_ok, ev_cb, kCB_ok, ev_call, kCall_ok, ev_cres, kRs_some, kRes_int, kRes_bool, kRes_str, kRes_none, kRes_list, kRes_tuple, kRes_false, kRes_exc, dats_nil, dats_cons, kD_some, isVal_val, isVal_bor, isVal_brf, ev_isa, kIsa_val, kIsa_own, kIsa_bor, kIsa_full, kIsa_brf, ev_and, kAnd_val, kAnd2_true, kAnd2_false, kAnd2_val, ev_or, kOr_val, kOr2_true, kOr2_false, kOr2_val, ev_not, kNot_val, ev_ife, kIfE_true, kIfE_false, ev_bof, kB_val, ev_tof, kTo_val, kTo_own, kTo_bor, kTo_full, kTo_brf, okB_some, truth_bool, truth_int, truth_none, truth_list, truth_tuple, ev_bnot, kNotB_ok, ev_band, kAndB_ok, kAndB2_true, kAndB2_false, kAndB2_ok, ev_bor, kOrB_ok, kOrB2_true, kOrB2_false, kOrB2_ok, ev_chain, kCh_ok, kCh2_false, kCh2_true, ev_fD, kD2_some, kS_int, kS_bool, kS_str, kS_none, ev_sub, ev_addI, ev_iadd, ev_div, ev_mod, ev_pow, ev_mulI, ev_neg, ev_eqI, ev_neI, ev_ltI, ev_leI, ev_gtI, ev_geI, ev_fD1, kD1_some, ev_int, ev_intb, ev_abs, ev_lenL, ev_lenT, ev_fI2, ev_catVV, ev_repV, ev_list, kLst_ok, ev_tup, kTup_ok, kMk_some, kMkT_some, stors_nil, stors_cons, kSt_some, stor_val, ev_ixL, ev_ixT, ev_ixB, atI_cast, atI_0, atI_1, atI_2, atI_3, atI_4, atI_5, atI_6, atI_7, ev_slice, kSl_val, kSl_own, kSl_bor, kSl_full, ev_pN, ev_pS, kP_int, ev_rev, ev_ls, ev_lsT, ev_tl, all_scal, ev_sorted, kSo_some, ev_iL, kIL_val, kIL_own, kIL_full, ev_iR, kR_1, kR_2, map_mkv_int, mkI_eq, rngI_eq, mkN_eq, ev_iR3, kR3_ok, rngC_eq, mkC_eq, ev_iM, kM_ok, kM2_some, mkEn_val, mkTp_val, ev_iZp, kZp_ok, mkZp_val, ev_lc, kLc_ok, kLcM_some, wipeE_nil, wipeE_cons, ev_byes, kE_val, kE_own, kE_full, kEl_some, kTl_some, ev_appAt, kAppAt_tuple, kAppAt_list, kAA_ok, ev_andI, ev_orI, ev_shr, ev_shl, List.getElem?_cons_zero, List.getElem?_cons_succ, List.set_cons_zero, List.set_cons_succ, List.all_nil, List.all_cons, Bool.and_true, Bool.true_and, Bool.or_true, Bool.true_or, Bool.or_false, Bool.false_or, Bool.and_false, Bool.false_and, Bool.not_true, Bool.not_false, Option.map_some, List.length_nil, List.length_cons, List.length_map, List.nil_append, List.map_cons, List.map_nil, scal_int, scal_bool, scal_str, scal_none, scal_list, scal_tuple, cd_true, cd_false, not_true_eq_false, not_false_eq_true, Nat.zero_le, and_self, true_and, and_true, ne_eq, not_false_eq_true, reduceIte, Nat.reduceLT, Nat.reduceLeDiff, Nat.reduceAdd, Nat.reduceMul, Nat.reduceSub, Nat.reduceEqDiff, Int.reduceLT, Int.reduceLE, Int.reduceAdd, Int.reduceSub, Int.reduceMul, Int.reduceNeg, Int.reduceToNat, Int.reduceEq, Int.reduceAbs, Int.reducePow, hp, d1, flat_rep, Int.toNat_natCast, b1, b2, b3, k3, k4, k5, k6, e1, f1, b4, b5, b6, p1, g1, g2, rngI_eq, r1, Int.sub_zero, t1, t4]
  exact ⟨t, rfl, t2, t3⟩
def B__law_map_1 : SF := (sIf (bAnd (bOf (e2 (fD gGt) (eVar 5) (eC (.int 1)))) (bOf (e2 (fD gGt) (eCall PF.f__law_power [(eVar 4), (eVar 5)]) (eVar 2))))
  (sSetZ 5 (e2 (fD gSub) (eVar 5) (eC (.int 1))))
  sNil)
def F__law_map : SF := (sSeq (sSetZ 3 (eCall PF.f__law_draws [(eVar 0), (eList [(eC (.int 3)), (eC (.int 6)), (eC (.int 7)), (eC (.int 201))])]))
  (sSeq (sSetZ 4 (e2 fAdd (eC (.int 2)) (e2 fIx (eVar 3) (eC (.int 0)))))
  (sSeq (sSetZ 5 (e2 fAdd (eC (.int 1)) (e2 fIx (eVar 3) (eC (.int 1)))))
  (sSeq (sForD [6] (iR [(eC (.int 6))]) (gN 6)
  PF.B__law_map_1)
  (sSeq (sSetZ 7 (e2 fIx (eList [(eC (.int 0)), (e1 fNeg (eC (.int 1))), (eC (.int 1)), (eC (.int 100)), (e1 fNeg (eC (.int 100))), (e2 (fD gSub) (e2 fIx (eVar 3) (eC (.int 3))) (eC (.int 100))), (e2 (fD gSub) (e2 fIx (eVar 3) (eC (.int 3))) (eC (.int 100)))]) (e2 fIx (eVar 3) (eC (.int 2)))))
  (sRet (eTup [(eVar 4), (eVar 7), (eVar 5), (eCall PF.f__law_table [(eVar 1), (eVar 4), (eVar 5)])])))))))
def f__law_map : FN := callF 8 F__law_map
/-- a map's data -/
abbrev mapD (s : Nat) (o : Int) (w : Nat) (t : List Int) : PyData := .tuple [.int s, .int o, .int w, .list (t.map .int)]
structure VMap (s : Nat) (o : Int) (w : Nat) (t : List Int) : Prop where
  s2 : 2 ≤ s
  s4 : s ≤ 4
  o1 : -100 ≤ o
  o2 : o ≤ 100
  w1 : 1 ≤ w
  w6 : w ≤ 6
  len : t.length = s ^ w
  cell : ∀ c ∈ t, 0 ≤ c ∧ c < (s : Int)
theorem pow46 {s w : Nat} (hs : s ≤ 4) (hw : w ≤ 6) (h0 : 0 < s) : s ^ w ≤ 4096 := by
  have h1 : s ^ w ≤ s ^ 6 := Nat.pow_le_pow_right h0 hw
  have h2 : s ^ 6 ≤ 4 ^ 6 := Nat.pow_le_pow_left hs 6
  have h3 : (4 : Nat) ^ 6 = 4096 := by decide
  omega
theorem map_ok (a b : Int) (m : Nat) (hm : 4 ≤ m) : ∃ (s : Nat) (o : Int) (w : Nat) (t : List Int), f__law_map [.int a, .int b, .int m] = some (.ret true (mapD s o w t)) ∧ VMap s o w t ∧ s ^ w ≤ m := by
  obtain ⟨rs, d1, d2⟩ := draws_ok a [3, 6, 7, 201] (by decide) (by decide)
  obtain ⟨q0, q1, q2, q3, rfl⟩ : ∃ q0 q1 q2 q3, rs = [q0, q1, q2, q3] := by
    have := d2.length
    match rs, this with
    | [a, b, c, d], _ => exact ⟨a, b, c, d, rfl⟩
  obtain ⟨x0, x1, y0, y1, z0, z1, u0, u1, -⟩ := d2
  simp only [List.map_cons, List.map_nil] at d1
  obtain ⟨s, hs⟩ : ∃ s : Nat, 2 + q0 = s := Int.eq_ofNat_of_zero_le (by omega)
  obtain ⟨w, hw⟩ : ∃ s : Nat, 1 + q1 = s := Int.eq_ofNat_of_zero_le (by omega)
  have h6 : small62 6 = true := small62_ok (by decide) (by decide)
  simp only [f__law_map, F__law_map, ev_seq, kSeq_nx, kSeq_rt, kSeq_bk, kSeq_ct, kSeq_ex, ev_nil, ev_pass, ev_break, ev_cont, ev_retn, ev_fg, fgt_nil, fgt_cons, ev_gh, kGh_some, ev_gfrz, kFrz_some, ev_gown, kOwn_full, kOwn_own, kOwn_val, ev_setZ, kSetZ_val, kSetZ_own, kSetZ_full, kSetZ_ex, ev_set, kSet_val, kSet_own, kSet_full, kSet_ex, ev_ret, kRet_val, kRet_own, kRet_full, kRet_ex, ev_retO, kRetO_own, kRetO_val, kRetO_full, ev_expr, kExpr_ok, kExpr_ex, ev_if, kIf_true, kIf_false, ev_for, kFor_ok, ev_while, ev_turn, kTurn1_some, kTurn_nx, kTurn_ct, kTurn_bk, kTurn_rt, kTurn_ex, ev_wturn, kW_true, kW_false, ev_gN, ev_gT, kT_some, itemsT_val, gSets_nil, gSets_val, mkv_int, mkv_bool, mkv_str, mkv_none, mkv_list, mkv_tuple, ev_unp, kUnp_val, kUnp_full, kU_some, ev_aug, kAug_val, kA_some, ev_app, kApp_val, kApp_own, kApp_full, ev_put, kPut_val, callF_eq, entE_nil, unds_succ, unds_zero, entE_cons, entS_int, entS_bool, entS_str, entS_none, entS_list, entS_tuple, kF_nx, kF_rt, kF_ex, frOf_val, frOf_own, frOf_full, ev_var, kVar_val, kVar_own, kVar_full, ev_c, ev_e2, k2_ok, okO_some, ev_e1, k1_ok, frz_val, frz_own, frz_full, frz_bor, frz_brf, dat_val, dat_bor, dat_brf, ev_evs0, ev_evs, kC_ok, ev_cb, kCB_ok, ev_call, kCall_ok, ev_cres, kRs_some, kRes_int, kRes_bool, kRes_str, kRes_none, kRes_list, kRes_tuple, kRes_false, kRes_exc, dats_nil, dats_cons, kD_some, isVal_val, isVal_bor, isVal_brf, ev_isa, kIsa_val, kIsa_own, kIsa_bor, kIsa_full, kIsa_brf, ev_and, kAnd_val, kAnd2_true, kAnd2_false, kAnd2_val, ev_or, kOr_val, kOr2_true, kOr2_false, kOr2_val, ev_not, kNot_val, ev_ife, kIfE_true, kIfE_false, ev_bof, kB_val, ev_tof, kTo_val, kTo_own, kTo_bor, kTo_full, kTo_brf, okB_some, truth_bool, truth_int, truth_none, truth_list, truth_tuple, ev_bnot, kNotB_ok, ev_band, kAndB_ok, kAndB2_true, kAndB2_false, kAndB2_ok, ev_bor, kOrB_ok, kOrB2_true, kOrB2_false, kOrB2_ok, ev_chain, kCh_ok, kCh2_false, kCh2_true, ev_fD, kD2_some, kS_int, kS_bool, kS_str, kS_none, ev_sub, ev_addI, ev_iadd, ev_div, ev_mod, ev_pow, ev_mulI, ev_neg, ev_eqI, ev_neI, ev_ltI, ev_leI, ev_gtI, ev_geI, ev_fD1, kD1_some, ev_int, ev_intb, ev_abs, ev_lenL, ev_lenT, ev_fI2, ev_catVV, ev_repV, ev_list, kLst_ok, ev_tup, kTup_ok, kMk_some, kMkT_some, stors_nil, stors_cons, kSt_some, stor_val, ev_ixL, ev_ixT, ev_ixB, atI_cast, atI_0, atI_1, atI_2, atI_3, atI_4, atI_5, atI_6, atI_7, ev_slice, kSl_val, kSl_own, kSl_bor, kSl_full, ev_pN, ev_pS, kP_int, ev_rev, ev_ls, ev_lsT, ev_tl, all_scal, ev_sorted, kSo_some, ev_iL, kIL_val, kIL_own, kIL_full, ev_iR, kR_1, kR_2, map_mkv_int, mkI_eq, rngI_eq, mkN_eq, ev_iR3, kR3_ok, rngC_eq, mkC_eq, ev_iM, kM_ok, kM2_some, mkEn_val, mkTp_val, ev_iZp, kZp_ok, mkZp_val, ev_lc, kLc_ok, kLcM_some, wipeE_nil, wipeE_cons, ev_byes, kE_val, kE_own, kE_full, kEl_some, kTl_some, ev_appAt, kAppAt_tuple, kAppAt_list, kAA_ok, ev_andI, ev_orI, ev_shr, ev_shl, List.getElem?_cons_zero, List.getElem?_cons_succ, List.set_cons_zero, List.set_cons_succ, List.all_nil, List.all_cons, Bool.and_true, Bool.true_and, Bool.or_true, Bool.true_or, Bool.or_false, Bool.false_or, Bool.and_false, Bool.false_and, Bool.not_true, Bool.not_false, Option.map_some, List.length_nil, List.length_cons, List.length_map, List.nil_append, List.map_cons, List.map_nil, scal_int, scal_bool, scal_str, scal_none, scal_list, scal_tuple, cd_true, cd_false, not_true_eq_false, not_false_eq_true, Nat.zero_le, and_self, true_and, and_true, ne_eq, not_false_eq_true, reduceIte, Nat.reduceLT, Nat.reduceLeDiff, Nat.reduceAdd, Nat.reduceMul, Nat.reduceSub, Nat.reduceEqDiff, Int.reduceLT, Int.reduceLE, Int.reduceAdd, Int.reduceSub, Int.reduceMul, Int.reduceNeg, Int.reduceToNat, Int.reduceEq, Int.reduceAbs, Int.reducePow, d1, atI_0, atI_1, atI_2, atI_3, hs, hw, h6, rngI_eq]
  refine forT_nx (fun l ρ => ∃ v : Nat, 1 ≤ v ∧ v ≤ 6 ∧ (s ^ v ≤ m ∨ v ≤ l.length + 1) ∧ ρ = [.val true (.int a), .val true (.int b), .val true (.int m), .val true (.list [.int q0, .int q1, .int q2, .int q3]), .val true (.int s), .val true (.int v), .und, .und]) (fun o => ∃ s' o' w' t, kF (kSeq o _) = some (.ret true (mapD s' o' w' t)) ∧ VMap s' o' w' t ∧ s' ^ w' ≤ m) ⟨w, by omega, by omega, .inr ?_, rfl⟩ ?_ ?_
  · rw [List.length_range]; omega
  · rintro x l ρ ⟨v, v1, v6, vm, rfl⟩
    have hp := power_ok s v (by omega) (by omega)
    by_cases c1 : (1 : Int) < v
    · by_cases c2 : (m : Int) < ((s ^ v : Nat) : Int)
      · simp only [B__law_map_1, ev_seq, kSeq_nx, kSeq_rt, kSeq_bk, kSeq_ct, kSeq_ex, ev_nil, ev_pass, ev_break, ev_cont, ev_retn, ev_fg, fgt_nil, fgt_cons, ev_gh, kGh_some, ev_gfrz, kFrz_some, ev_gown, kOwn_full, kOwn_own, kOwn_val, ev_setZ, kSetZ_val, kSetZ_own, kSetZ_full, kSetZ_ex, ev_set, kSet_val, kSet_own, kSet_full, kSet_ex, ev_ret, kRet_val, kRet_own, kRet_full, kRet_ex, ev_retO, kRetO_own, kRetO_val, kRetO_full, ev_expr, kExpr_ok, kExpr_ex, ev_if, kIf_true, kIf_false, ev_for, kFor_ok, ev_while, ev_turn, kTurn1_some, kTurn_nx, kTurn_ct, kTurn_bk, kTurn_rt, kTurn_ex, ev_wturn, kW_true, kW_false, ev_gN, ev_gT, kT_some, itemsT_val, gSets_nil, gSets_val, mkv_int, mkv_bool, mkv_str, mkv_none, mkv_list, mkv_tuple, ev_unp, kUnp_val, kUnp_full, kU_some, ev_aug, kAug_val, kA_some, ev_app, kApp_val, kApp_own, kApp_full, ev_put, kPut_val, callF_eq, entE_nil, unds_succ, unds_zero, entE_cons, entS_int, entS_bool, entS_str, entS_none, entS_list, entS_tuple, kF_nx, kF_rt, kF_ex, frOf_val, frOf_own, frOf_full, ev_var, kVar_val, kVar_own, kVar_full, ev_c, ev_e2, k2_ok, okO_some, ev_e1, k1_ok, frz_val, frz_own, frz_full, frz_bor, frz_brf, dat_val, dat_bor, dat_brf, ev_evs0, ev_evs, kC_ok, ev_cb, kCB_ok, ev_call, kCall_ok, ev_cres, kRs_some, kRes_int, kRes_bool, kRes_str, kRes_none, kRes_list, kRes_tuple, kRes_false, kRes_exc, dats_nil, dats_cons, kD_some, isVal_val, isVal_bor, isVal_brf, ev_isa, kIsa_val, kIsa_own, kIsa_bor, kIsa_full, kIsa_brf, ev_and, kAnd_val, kAnd2_true, kAnd2_false, kAnd2_val, ev_or, kOr_val, kOr2_true, kOr2_false, kOr2_val, ev_not, kNot_val, ev_ife, kIfE_true, kIfE_false, ev_bof, kB_val, ev_tof, kTo_val, kTo_own, kTo_bor, kTo_full, kTo_brf, okB_some, truth_bool, truth_int, truth_none, truth_list, truth_tuple, ev_bnot, kNotB_ok, ev_band, kAndB_ok, kAndB2_true, kAndB2_false, kAndB2_ok, ev_bor, kOrB_ok, kOrB2_true, kOrB2_false, kOrB2_ok, ev_chain, kCh_ok, kCh2_false, kCh2_true, ev_fD, kD2_some, kS_int, kS_bool, kS_str, kS_none, ev_sub, ev_addI, ev_iadd, ev_div, ev_mod, ev_pow, ev_mulI, ev_neg, ev_eqI, ev_neI, ev_ltI, ev_leI, ev_gtI, ev_geI, ev_fD1, kD1_some, ev_int, ev_intb, ev_abs, ev_lenL, ev_lenT, ev_fI2, ev_catVV, ev_repV, ev_list, kLst_ok, ev_tup, kTup_ok, kMk_some, kMkT_some, stors_nil, stors_cons, kSt_some, stor_val, ev_ixL, ev_ixT, ev_ixB, atI_cast, atI_0, atI_1, atI_2, atI_3, atI_4, atI_5, atI_6, atI_7, ev_slice, kSl_val, kSl_own, kSl_bor, kSl_full, ev_pN, ev_pS, kP_int, ev_rev, ev_ls, ev_lsT, ev_tl, all_scal, ev_sorted, kSo_some, ev_iL, kIL_val, kIL_own, kIL_full, ev_iR, kR_1, kR_2, map_mkv_int, mkI_eq, rngI_eq, mkN_eq, ev_iR3, kR3_ok, rngC_eq, mkC_eq, ev_iM, kM_ok, kM2_some, mkEn_val, mkTp_val, ev_iZp, kZp_ok, mkZp_val, ev_lc, kLc_ok, kLcM_some, wipeE_nil, wipeE_cons, ev_byes, kE_val, kE_own, kE_full, kEl_some, kTl_some, ev_appAt, kAppAt_tuple, kAppAt_list, kAA_ok, ev_andI, ev_orI, ev_shr, ev_shl, List.getElem?_cons_zero, List.getElem?_cons_succ, List.set_cons_zero, List.set_cons_succ, List.all_nil, List.all_cons, Bool.and_true, Bool.true_and, Bool.or_true, Bool.true_or, Bool.or_false, Bool.false_or, Bool.and_false, Bool.false_and, Bool.not_true, Bool.not_false, Option.map_some, List.length_nil, List.length_cons, List.length_map, List.nil_append, List.map_cons, List.map_nil, scal_int, scal_bool, scal_str, scal_none, scal_list, scal_tuple, cd_true, cd_false, not_true_eq_false, not_false_eq_true, Nat.zero_le, and_self, true_and, and_true, ne_eq, not_false_eq_true, reduceIte, Nat.reduceLT, Nat.reduceLeDiff, Nat.reduceAdd, Nat.reduceMul, Nat.reduceSub, Nat.reduceEqDiff, Int.reduceLT, Int.reduceLE, Int.reduceAdd, Int.reduceSub, Int.reduceMul, Int.reduceNeg, Int.reduceToNat, Int.reduceEq, Int.reduceAbs, Int.reducePow, mkN_eq, hp, c1, c2]
        refine ⟨_, rfl, v - 1, by omega, by omega, ?_, by rw [show ((v : Int) - 1) = ((v - 1 : Nat) : Int) by omega]⟩
        rcases vm with h | h
        · omega
        · rw [List.length_cons] at h; right; omega
      · simp only [B__law_map_1, ev_seq, kSeq_nx, kSeq_rt, kSeq_bk, kSeq_ct, kSeq_ex, ev_nil, ev_pass, ev_break, ev_cont, ev_retn, ev_fg, fgt_nil, fgt_cons, ev_gh, kGh_some, ev_gfrz, kFrz_some, ev_gown, kOwn_full, kOwn_own, kOwn_val, ev_setZ, kSetZ_val, kSetZ_own, kSetZ_full, kSetZ_ex, ev_set, kSet_val, kSet_own, kSet_full, kSet_ex, ev_ret, kRet_val, kRet_own, kRet_full, kRet_ex, ev_retO, kRetO_own, kRetO_val, kRetO_full, ev_expr, kExpr_ok, kExpr_ex, ev_if, kIf_true, kIf_false, ev_for, kFor_ok, ev_while, ev_turn, kTurn1_some, kTurn_nx, kTurn_ct, kTurn_bk, kTurn_rt, kTurn_ex, ev_wturn, kW_true, kW_false, ev_gN, ev_gT, kT_some, itemsT_val, gSets_nil, gSets_val, mkv_int, mkv_bool, mkv_str, mkv_none, mkv_list, mkv_tuple, ev_unp, kUnp_val, kUnp_full, kU_some, ev_aug, kAug_val, kA_some, ev_app, kApp_val, kApp_own, kApp_full, ev_put, kPut_val, callF_eq, entE_nil, unds_succ, unds_zero, entE_cons, entS_int, entS_bool, entS_str, entS_none, entS_list, entS_tuple, kF_nx, kF_rt, kF_ex, frOf_val, frOf_own, frOf_full, ev_var, kVar_val, kVar_own, kVar_full, ev_c, ev_e2, k2_ok, okO_some, ev_e1, k1_ok, frz_val, frz_own, frz_full, frz_bor, frz_brf, dat_val, dat_bor, dat_brf, ev_evs0, ev_evs, kC_ok, ev_cb, kCB_ok, ev_call, kCall_ok, ev_cres, kRs_some, kRes_int, kRes_bool, kRes_str, kRes_none, kRes_list, kRes_tuple, kRes_false, kRes_exc, dats_nil, dats_cons, kD_some, isVal_val, isVal_bor, isVal_brf, ev_isa, kIsa_val, kIsa_own, kIsa_bor, kIsa_full, kIsa_brf, ev_and, kAnd_val, kAnd2_true, kAnd2_false, kAnd2_val, ev_or, kOr_val, kOr2_true, kOr2_false, kOr2_val, ev_not, kNot_val, ev_ife, kIfE_true, kIfE_false, ev_bof, kB_val, ev_tof, kTo_val, kTo_own, kTo_bor, kTo_full, kTo_brf, okB_some, truth_bool, truth_int, truth_none, truth_list, truth_tuple, ev_bnot, kNotB_ok, ev_band, kAndB_ok, kAndB2_true, kAndB2_false, kAndB2_ok, ev_bor, kOrB_ok, kOrB2_true, kOrB2_false, kOrB2_ok, ev_chain, kCh_ok, kCh2_false, kCh2_true, ev_fD, kD2_some, kS_int, kS_bool, kS_str, kS_none, ev_sub, ev_addI, ev_iadd, ev_div, ev_mod, ev_pow, ev_mulI, ev_neg, ev_eqI, ev_neI, ev_ltI, ev_leI, ev_gtI, ev_geI, ev_fD1, kD1_some, ev_int, ev_intb, ev_abs, ev_lenL, ev_lenT, ev_fI2, ev_catVV, ev_repV, ev_list, kLst_ok, ev_tup, kTup_ok, kMk_some, kMkT_some, stors_nil, stors_cons, kSt_some, stor_val, ev_ixL, ev_ixT, ev_ixB, atI_cast, atI_0, atI_1, atI_2, atI_3, atI_4, atI_5, atI_6, atI_7, ev_slice, kSl_val, kSl_own, kSl_bor, kSl_full, ev_pN, ev_pS, kP_int, ev_rev, ev_ls, ev_lsT, ev_tl, all_scal, ev_sorted, kSo_some, ev_iL, kIL_val, kIL_own, kIL_full, ev_iR, kR_1, kR_2, map_mkv_int, mkI_eq, rngI_eq, mkN_eq, ev_iR3, kR3_ok, rngC_eq, mkC_eq, ev_iM, kM_ok, kM2_some, mkEn_val, mkTp_val, ev_iZp, kZp_ok, mkZp_val, ev_lc, kLc_ok, kLcM_some, wipeE_nil, wipeE_cons, ev_byes, kE_val, kE_own, kE_full, kEl_some, kTl_some, ev_appAt, kAppAt_tuple, kAppAt_list, kAA_ok, ev_andI, ev_orI, ev_shr, ev_shl, List.getElem?_cons_zero, List.getElem?_cons_succ, List.set_cons_zero, List.set_cons_succ, List.all_nil, List.all_cons, Bool.and_true, Bool.true_and, Bool.or_true, Bool.true_or, Bool.or_false, Bool.false_or, Bool.and_false, Bool.false_and, Bool.not_true, Bool.not_false, Option.map_some, List.length_nil, List.length_cons, List.length_map, List.nil_append, List.map_cons, List.map_nil, scal_int, scal_bool, scal_str, scal_none, scal_list, scal_tuple, cd_true, cd_false, not_true_eq_false, not_false_eq_true, Nat.zero_le, and_self, true_and, and_true, ne_eq, not_false_eq_true, reduceIte, Nat.reduceLT, Nat.reduceLeDiff, Nat.reduceAdd, Nat.reduceMul, Nat.reduceSub, Nat.reduceEqDiff, Int.reduceLT, Int.reduceLE, Int.reduceAdd, Int.reduceSub, Int.reduceMul, Int.reduceNeg, Int.reduceToNat, Int.reduceEq, Int.reduceAbs, Int.reducePow, mkN_eq, hp, c1, c2]
        exact ⟨_, rfl, v, v1, v6, .inl (by omega), rfl⟩
    · simp only [B__law_map_1, ev_seq, kSeq_nx, kSeq_rt, kSeq_bk, kSeq_ct, kSeq_ex, ev_nil, ev_pass, ev_break, ev_cont, ev_retn, ev_fg, fgt_nil, fgt_cons, ev_gh, kGh_some, ev_gfrz, kFrz_some, ev_gown, kOwn_full, kOwn_own, kOwn_val, ev_setZ, kSetZ_val, kSetZ_own, kSetZ_full, kSetZ_ex, ev_set, kSet_val, kSet_own, kSet_full, kSet_ex, ev_ret, kRet_val, kRet_own, kRet_full, kRet_ex, ev_retO, kRetO_own, kRetO_val, kRetO_full, ev_expr, kExpr_ok, kExpr_ex, ev_if, kIf_true, kIf_false, ev_for, kFor_ok, ev_while, ev_turn, kTurn1_some, kTurn_nx, kTurn_ct, kTurn_bk, kTurn_rt, kTurn_ex, ev_wturn, kW_true, kW_false, ev_gN, ev_gT, kT_some, itemsT_val, gSets_nil, gSets_val, mkv_int, mkv_bool, mkv_str, mkv_none, mkv_list, mkv_tuple, ev_unp, kUnp_val, kUnp_full, kU_some, ev_aug, kAug_val, kA_some, ev_app, kApp_val, kApp_own, kApp_full, ev_put, kPut_val, callF_eq, entE_nil, unds_succ, unds_zero, entE_cons, entS_int, entS_bool, entS_str, entS_none, entS_list, entS_tuple, kF_nx, kF_rt, kF_ex, frOf_val, frOf_own, frOf_full, ev_var, kVar_val, kVar_own, kVar_full, ev_c, ev_e2, k2_ok, okO_some, ev_e1, k1_ok, frz_val, frz_own, frz_full, frz_bor, frz_brf, dat_val, dat_bor, dat_brf, ev_evs0, ev_evs, kC_ok, ev_cb, kCB_ok, ev_call, kCall_ok, ev_cres, kRs_some, kRes_int, kRes_bool, kRes_str, kRes_none, kRes_list, kRes_tuple, kRes_false, kRes_exc, dats_nil, dats_cons, kD_some, isVal_val, isVal_bor, isVal_brf, ev_isa, kIsa_val, kIsa_own, kIsa_bor, kIsa_full, kIsa_brf, ev_and, kAnd_val, kAnd2_true, kAnd2_false, kAnd2_val, ev_or, kOr_val, kOr2_true, kOr2_false, kOr2_val, ev_not, kNot_val, ev_ife, kIfE_true, kIfE_false, ev_bof, kB_val, ev_tof, kTo_val, kTo_own, kTo_bor, kTo_full, kTo_brf, okB_some, truth_bool, truth_int, truth_none, truth_list, truth_tuple, ev_bnot, kNotB_ok, ev_band, kAndB_ok, kAndB2_true, kAndB2_false, kAndB2_ok, ev_bor, kOrB_ok, kOrB2_true, kOrB2_false, kOrB2_ok, ev_chain, kCh_ok, kCh2_false, kCh2_true, ev_fD, kD2_some, kS_int, kS_bool, kS_str, kS_none, ev_sub, ev_addI, ev_iadd, ev_div, ev_mod, ev_pow, ev_mulI, ev_neg, ev_eqI, ev_neI, ev_ltI, ev_leI, ev_gtI, ev_geI, ev_fD1, kD1_some, ev_int, ev_intb, ev_abs, ev_lenL, ev_lenT, ev_fI2, ev_catVV, ev_repV, ev_list, kLst_ok, ev_tup, kTup_ok, kMk_some, kMkT_some, stors_nil, stors_cons, kSt_some, stor_val, ev_ixL, ev_ixT, ev_ixB, atI_cast, atI_0, atI_1, atI_2, atI_3, atI_4, atI_5, atI_6, atI_7, ev_slice, kSl_val, kSl_own, kSl_bor, kSl_full, ev_pN, ev_pS, kP_int, ev_rev, ev_ls, ev_lsT, ev_tl, all_scal, ev_sorted, kSo_some, ev_iL, kIL_val, kIL_own, kIL_full, ev_iR, kR_1, kR_2, map_mkv_int, mkI_eq, rngI_eq, mkN_eq, ev_iR3, kR3_ok, rngC_eq, mkC_eq, ev_iM, kM_ok, kM2_some, mkEn_val, mkTp_val, ev_iZp, kZp_ok, mkZp_val, ev_lc, kLc_ok, kLcM_some, wipeE_nil, wipeE_cons, ev_byes, kE_val, kE_own, kE_full, kEl_some, kTl_some, ev_appAt, kAppAt_tuple, kAppAt_list, kAA_ok, ev_andI, ev_orI, ev_shr, ev_shl, List.getElem?_cons_zero, List.getElem?_cons_succ, List.set_cons_zero, List.set_cons_succ, List.all_nil, List.all_cons, Bool.and_true, Bool.true_and, Bool.or_true, Bool.true_or, Bool.or_false, Bool.false_or, Bool.and_false, Bool.false_and, Bool.not_true, Bool.not_false, Option.map_some, List.length_nil, List.length_cons, List.length_map, List.nil_append, List.map_cons, List.map_nil, scal_int, scal_bool, scal_str, scal_none, scal_list, scal_tuple, cd_true, cd_false, not_true_eq_false, not_false_eq_true, Nat.zero_le, and_self, true_and, and_true, ne_eq, not_false_eq_true, reduceIte, Nat.reduceLT, Nat.reduceLeDiff, Nat.reduceAdd, Nat.reduceMul, Nat.reduceSub, Nat.reduceEqDiff, Int.reduceLT, Int.reduceLE, Int.reduceAdd, Int.reduceSub, Int.reduceMul, Int.reduceNeg, Int.reduceToNat, Int.reduceEq, Int.reduceAbs, Int.reducePow, mkN_eq, hp, c1]
      have e1 : v = 1 := by omega
      subst e1
      exact ⟨_, rfl, 1, by omega, by omega, .inl (by rw [Nat.pow_one]; omega), rfl⟩
  · rintro ρ ⟨v, v1, v6, vm, rfl⟩
    have s4 : s ≤ 4 := by omega
    have vm' : s ^ v ≤ m := by
      rcases vm with h | h
      · exact h
      · have : v = 1 := by simp at h; omega
        rw [this, Nat.pow_one]; omega
    have hb := pow46 s4 v6 (by omega)
    obtain ⟨t, t1, t2, t3⟩ := table_ok b s v (by omega) (by omega) (by omega) (by omega) (by omega)
    have go : ∀ (k : Nat) (o : Int), q2 = k → [PyData.int 0, .int (-1), .int 1, .int 100, .int (-100), .int (q3 - 100), .int (q3 - 100)][k]? = some (.int o) → -100 ≤ o → o ≤ 100 → ∃ s' o' w' t', kF (kSeq (some (.nx [.val true (.int a), .val true (.int b), .val true (.int m), .val true (.list [.int q0, .int q1, .int q2, .int q3]), .val true (.int s), .val true (.int v), .und, .und])) (sSeq (sSetZ 7 (e2 fIx (eList [(eC (.int 0)), (e1 fNeg (eC (.int 1))), (eC (.int 1)), (eC (.int 100)), (e1 fNeg (eC (.int 100))), (e2 (fD gSub) (e2 fIx (eVar 3) (eC (.int 3))) (eC (.int 100))), (e2 (fD gSub) (e2 fIx (eVar 3) (eC (.int 3))) (eC (.int 100)))]) (e2 fIx (eVar 3) (eC (.int 2)))))
  (sRet (eTup [(eVar 4), (eVar 7), (eVar 5), (eCall PF.f__law_table [(eVar 1), (eVar 4), (eVar 5)])])))) = some (.ret true (mapD s' o' w' t')) ∧ VMap s' o' w' t' ∧ s' ^ w' ≤ m := by
      intro k o e2 e3 o1 o2
      subst e2
      simp only [ev_seq, kSeq_nx, kSeq_rt, kSeq_bk, kSeq_ct, kSeq_ex, ev_nil, ev_pass, ev_break, ev_cont, ev_retn, ev_fg, fgt_nil, fgt_cons, ev_gh, kGh_some, ev_gfrz, kFrz_some, ev_gown, kOwn_full, kOwn_own, kOwn_val, ev_setZ, kSetZ_val, kSetZ_own, kSetZ_full, kSetZ_ex, ev_set, kSet_val, kSet_own, kSet_full, kSet_ex, ev_ret, kRet_val, kRet_own, kRet_full, kRet_ex, ev_retO, kRetO_own, kRetO_val, kRetO_full, ev_expr, kExpr_ok, kExpr_ex, ev_if, kIf_true, kIf_false, ev_for, kFor_ok, ev_while, ev_turn, kTurn1_some, kTurn_nx, kTurn_ct, kTurn_bk, kTurn_rt, kTurn_ex, ev_wturn, kW_true, kW_false, ev_gN, ev_gT, kT_some, itemsT_val, gSets_nil, gSets_val, mkv_int, mkv_bool, mkv_str, mkv_none, mkv_list, mkv_tuple, ev_unp, kUnp_val, kUnp_full, kU_some, ev_aug, kAug_val, kA_some, ev_app, kApp_val, kApp_own, kApp_full, ev_put, kPut_val, callF_eq, entE_nil, unds_succ, unds_zero, entE_cons, entS_int, entS_bool, entS_str, entS_none, entS_list, entS_tuple, kF_nx, kF_rt, kF_ex, frOf_val, frOf_own, frOf_full, ev_var, kVar_val, kVar_own, kVar_full, ev_c, ev_e2, k2_ok, okO_some, ev_e1, k1_ok, frz_val, frz_own, frz_full, frz_bor, frz_brf, dat_val, dat_bor, dat_brf, ev_evs0, ev_evs, kC_ok, ev_cb, kCB_ok, ev_call, kCall_ok, ev_cres, kRs_some, kRes_int, kRes_bool, kRes_str, kRes_none, kRes_list, kRes_tuple, kRes_false, kRes_exc, dats_nil, dats_cons, kD_some, isVal_val, isVal_bor, isVal_brf, ev_isa, kIsa_val, kIsa_own, kIsa_bor, kIsa_full, kIsa_brf, ev_and, kAnd_val, kAnd2_true, kAnd2_false, kAnd2_val, ev_or, kOr_val, kOr2_true, kOr2_false, kOr2_val, ev_not, kNot_val, ev_ife, kIfE_true, kIfE_false, ev_bof, kB_val, ev_tof, kTo_val, kTo_own, kTo_bor, kTo_full, kTo_brf, okB_some, truth_bool, truth_int, truth_none, truth_list, truth_tuple, ev_bnot, kNotB_ok, ev_band, kAndB_ok, kAndB2_true, kAndB2_false, kAndB2_ok, ev_bor, kOrB_ok, kOrB2_true, kOrB2_false, kOrB2_ok, ev_chain, kCh_ok, kCh2_false, kCh2_true, ev_fD, kD2_some, kS_int, kS_bool, kS_str, kS_none, ev_sub, ev_addI, ev_iadd, ev_div, ev_mod, ev_pow, ev_mulI, ev_neg, ev_eqI, ev_neI, ev_ltI, ev_leI, ev_gtI, ev_geI, ev_fD1, kD1_some, ev_int, ev_intb, ev_abs, ev_lenL, ev_lenT, ev_fI2, ev_catVV, ev_repV, ev_list, kLst_ok, ev_tup, kTup_ok, kMk_some, kMkT_some, stors_nil, stors_cons, kSt_some, stor_val, ev_ixL, ev_ixT, ev_ixB, atI_cast, atI_0, atI_1, atI_2, atI_3, atI_4, atI_5, atI_6, atI_7, ev_slice, kSl_val, kSl_own, kSl_bor, kSl_full, ev_pN, ev_pS, kP_int, ev_rev, ev_ls, ev_lsT, ev_tl, all_scal, ev_sorted, kSo_some, ev_iL, kIL_val, kIL_own, kIL_full, ev_iR, kR_1, kR_2, map_mkv_int, mkI_eq, rngI_eq, mkN_eq, ev_iR3, kR3_ok, rngC_eq, mkC_eq, ev_iM, kM_ok, kM2_some, mkEn_val, mkTp_val, ev_iZp, kZp_ok, mkZp_val, ev_lc, kLc_ok, kLcM_some, wipeE_nil, wipeE_cons, ev_byes, kE_val, kE_own, kE_full, kEl_some, kTl_some, ev_appAt, kAppAt_tuple, kAppAt_list, kAA_ok, ev_andI, ev_orI, ev_shr, ev_shl, List.getElem?_cons_zero, List.getElem?_cons_succ, List.set_cons_zero, List.set_cons_succ, List.all_nil, List.all_cons, Bool.and_true, Bool.true_and, Bool.or_true, Bool.true_or, Bool.or_false, Bool.false_or, Bool.and_false, Bool.false_and, Bool.not_true, Bool.not_false, Option.map_some, List.length_nil, List.length_cons, List.length_map, List.nil_append, List.map_cons, List.map_nil, scal_int, scal_bool, scal_str, scal_none, scal_list, scal_tuple, cd_true, cd_false, not_true_eq_false, not_false_eq_true, Nat.zero_le, and_self, true_and, and_true, ne_eq, not_false_eq_true, reduceIte, Nat.reduceLT, Nat.reduceLeDiff, Nat.reduceAdd, Nat.reduceMul, Nat.reduceSub, Nat.reduceEqDiff, Int.reduceLT, Int.reduceLE, Int.reduceAdd, Int.reduceSub, Int.reduceMul, Int.reduceNeg, Int.reduceToNat, Int.reduceEq, Int.reduceAbs, Int.reducePow, atI_0, atI_1, atI_2, atI_3, atI_cast, e3, t1]
      exact ⟨s, o, v, t, rfl, ⟨by omega, s4, o1, o2, by omega, v6, t2, t3⟩, vm'⟩
    obtain ⟨k, hk⟩ : ∃ k : Nat, q2 = k := Int.eq_ofNat_of_zero_le z0
    have hk7 : k < 7 := by omega
    match k, hk, hk7 with
    | 0, hk, _ => exact go 0 0 hk rfl (by omega) (by omega)
    | 1, hk, _ => exact go 1 (-1) hk rfl (by omega) (by omega)
    | 2, hk, _ => exact go 2 1 hk rfl (by omega) (by omega)
    | 3, hk, _ => exact go 3 100 hk rfl (by omega) (by omega)
    | 4, hk, _ => exact go 4 (-100) hk rfl (by omega) (by omega)
    | 5, hk, _ => exact go 5 (q3 - 100) hk rfl (by omega) (by omega)
    | 6, hk, _ => exact go 6 (q3 - 100) hk rfl (by omega) (by omega)
def C__law_apply_1 : EF := (e2 fIx (eVar 5) (eCall PF.f__law_index [(eSl (eVar 1) (pS (eVar 6)) (pS (e2 fAdd (eVar 6) (eVar 4)))), (eVar 2)]))
def F__law_apply : SF := (sSeq (sUnp [2, 3, 4, 5] (eVar 0))
  (sRet (eLc (iR [(e2 fAdd (e2 (fD gSub) (eCB (fD1 gLen) [(eVar 1)]) (eVar 4)) (eC (.int 1)))]) [6] (gN 6) bYes PF.C__law_apply_1)))
def f__law_apply : FN := callF 7 F__law_apply
/-- all windows of w cells -/
def wins (w : Nat) (xs : List Int) : List (List Int) := (List.range (xs.length + 1 - w)).map fun k => (xs.drop k).take w
def newC (s : Nat) (t : List Int) (ws : List Int) : Int := t.getD (idx s ws).toNat 0
def applyL (s w : Nat) (t xs : List Int) : List Int := (wins w xs).map (newC s t)
theorem cells_in {s : Int} {xs : List Int} (h : ∀ c ∈ xs, 0 ≤ c ∧ c < s) (a n : Nat) : ∀ c ∈ (xs.drop a).take n, 0 ≤ c ∧ c < s := fun c hc => h c (List.mem_of_mem_drop (List.mem_of_mem_take hc))
/-- a window's place in the table -/
theorem win_at {s w : Nat} {t ws : List Int} (hs : 0 < s) (ht : t.length = s ^ w) (hw : ws.length = w) (h : ∀ c ∈ ws, 0 ≤ c ∧ c < (s : Int)) : ∃ m : Nat, idx s ws = m ∧ (t.map PyData.int)[m]? = some (.int (newC s t ws)) := by
  have hsI : (0 : Int) < s := by omega
  have b := idx_lt hsI h
  obtain ⟨m, hm⟩ := Int.eq_ofNat_of_zero_le b.1
  have hl : m < t.length := by
    rw [ht, ← hw]
    have h1 := b.2
    rw [hm] at h1
    have h2 : (m : Int) < ((s ^ ws.length : Nat) : Int) := by rw [Int.natCast_pow]; exact h1
    omega
  refine ⟨m, hm, ?_⟩
  rw [at_mem hl]
  unfold newC
  rw [hm, Int.toNat_natCast, List.getD_eq_getElem?_getD, List.getElem?_eq_getElem hl]
  rfl
theorem win_len {w k : Nat} {xs : List Int} (h : k < xs.length + 1 - w) : ((xs.drop k).take w).length = w := by
  rw [List.length_take, List.length_drop]; omega
theorem apply_ok {s w : Nat} {o : Int} {t xs : List Int} (hs : 0 < s) (hs' : s < 18446744073709551616) (ht : t.length = s ^ w) (hx : ∀ c ∈ xs, 0 ≤ c ∧ c < (s : Int)) (hl : xs.length < 16777216) (hw : w < 16777216) : f__law_apply [mapD s o w t, .list (xs.map .int)] = some (.ret true (.list ((applyL s w t xs).map .int))) := by
  have h6 : small62 ((xs.length : Int) - w + 1) = true := small62_ok (by omega) (by omega)
  have e1 : ((xs.length : Int) - w + 1 - 0).toNat = xs.length + 1 - w := by omega
  have key := lcL_map (t := gN 6) (elt := C__law_apply_1) (ρ := [.val false (mapD s o w t), .val false (.list (xs.map .int)), .val true (.int s), .val true (.int o), .val true (.int w), .val false (.list (t.map .int)), .und]) (mk := mkN 0) (r := fun k => .int (newC s t ((xs.drop k).take w))) (List.range (xs.length + 1 - w)) (fun k hk => by
    rw [List.mem_range] at hk
    have e2 : (k : Int) + w = ((k + w : Nat) : Int) := by omega
    obtain ⟨m, m1, m2⟩ := win_at hs ht (win_len hk) (cells_in hx k w)
    have i1 := index_ok ((xs.drop k).take w) s hs'
    rw [m1, List.map_take, List.map_drop] at i1
    simp only [C__law_apply_1, ev_seq, kSeq_nx, kSeq_rt, kSeq_bk, kSeq_ct, kSeq_ex, ev_nil, ev_pass, ev_break, ev_cont, ev_retn, ev_fg, fgt_nil, fgt_cons, ev_gh, kGh_some, ev_gfrz, kFrz_some, ev_gown, kOwn_full, kOwn_own, kOwn_val, ev_setZ, kSetZ_val, kSetZ_own, kSetZ_full, kSetZ_ex, ev_set, kSet_val, kSet_own, kSet_full, kSet_ex, ev_ret, kRet_val, kRet_own, kRet_full, kRet_ex, ev_retO, kRetO_own, kRetO_val, kRetO_full, ev_expr, kExpr_ok, kExpr_ex, ev_if, kIf_true, kIf_false, ev_for, kFor_ok, ev_while, ev_turn, kTurn1_some, kTurn_nx, kTurn_ct, kTurn_bk, kTurn_rt, kTurn_ex, ev_wturn, kW_true, kW_false, ev_gN, ev_gT, kT_some, itemsT_val, gSets_nil, gSets_val, mkv_int, mkv_bool, mkv_str, mkv_none, mkv_list, mkv_tuple, ev_unp, kUnp_val, kUnp_full, kU_some, ev_aug, kAug_val, kA_some, ev_app, kApp_val, kApp_own, kApp_full, ev_put, kPut_val, callF_eq, entE_nil, unds_succ, unds_zero, entE_cons, entS_int, entS_bool, entS_str, entS_none, entS_list, entS_tuple, kF_nx, kF_rt, kF_ex, frOf_val, frOf_own, frOf_full, ev_var, kVar_val, kVar_own, kVar_full, ev_c, ev_e2, k2_ok, okO_some, ev_e1, k1_ok, frz_val, frz_own, frz_full, frz_bor, frz_brf, dat_val, dat_bor, dat_brf, ev_evs0, ev_evs, kC_ok, ev_cb, kCB_ok, ev_call, kCall_ok, ev_cres, kRs_some, kRes_int, kRes_bool, kRes_str, kRes_none, kRes_list, kRes_tuple, kRes_false, kRes_exc, dats_nil, dats_cons, kD_some, isVal_val, isVal_bor, isVal_brf, ev_isa, kIsa_val, kIsa_own, kIsa_bor, kIsa_full, kIsa_brf, ev_and, kAnd_val, kAnd2_true, kAnd2_false, kAnd2_val, ev_or, kOr_val, kOr2_true, kOr2_false, kOr2_val, ev_not, kNot_val, ev_ife, kIfE_true, kIfE_false, ev_bof, kB_val, ev_tof, kTo_val, kTo_own, kTo_bor, kTo_full, kTo_brf, okB_some, truth_bool, truth_int, truth_none, truth_list, truth_tuple, ev_bnot, kNotB_ok, ev_band, kAndB_ok, kAndB2_true, kAndB2_false, kAndB2_ok, ev_bor, kOrB_ok, kOrB2_true, kOrB2_false, kOrB2_ok, ev_chain, kCh_ok, kCh2_false, kCh2_true, ev_fD, kD2_some, kS_int, kS_bool, kS_str, kS_none, ev_sub, ev_addI, ev_iadd, ev_div, ev_mod, ev_pow, ev_mulI, ev_neg, ev_eqI, ev_neI, ev_ltI, ev_leI, ev_gtI, ev_geI, ev_fD1, kD1_some, ev_int, ev_intb, ev_abs, ev_lenL, ev_lenT, ev_fI2, ev_catVV, ev_repV, ev_list, kLst_ok, ev_tup, kTup_ok, kMk_some, kMkT_some, stors_nil, stors_cons, kSt_some, stor_val, ev_ixL, ev_ixT, ev_ixB, atI_cast, atI_0, atI_1, atI_2, atI_3, atI_4, atI_5, atI_6, atI_7, ev_slice, kSl_val, kSl_own, kSl_bor, kSl_full, ev_pN, ev_pS, kP_int, ev_rev, ev_ls, ev_lsT, ev_tl, all_scal, ev_sorted, kSo_some, ev_iL, kIL_val, kIL_own, kIL_full, ev_iR, kR_1, kR_2, map_mkv_int, mkI_eq, rngI_eq, mkN_eq, ev_iR3, kR3_ok, rngC_eq, mkC_eq, ev_iM, kM_ok, kM2_some, mkEn_val, mkTp_val, ev_iZp, kZp_ok, mkZp_val, ev_lc, kLc_ok, kLcM_some, wipeE_nil, wipeE_cons, ev_byes, kE_val, kE_own, kE_full, kEl_some, kTl_some, ev_appAt, kAppAt_tuple, kAppAt_list, kAA_ok, ev_andI, ev_orI, ev_shr, ev_shl, List.getElem?_cons_zero, List.getElem?_cons_succ, List.set_cons_zero, List.set_cons_succ, List.all_nil, List.all_cons, Bool.and_true, Bool.true_and, Bool.or_true, Bool.true_or, Bool.or_false, Bool.false_or, Bool.and_false, Bool.false_and, Bool.not_true, Bool.not_false, Option.map_some, List.length_nil, List.length_cons, List.length_map, List.nil_append, List.map_cons, List.map_nil, scal_int, scal_bool, scal_str, scal_none, scal_list, scal_tuple, cd_true, cd_false, not_true_eq_false, not_false_eq_true, Nat.zero_le, and_self, true_and, and_true, ne_eq, not_false_eq_true, reduceIte, Nat.reduceLT, Nat.reduceLeDiff, Nat.reduceAdd, Nat.reduceMul, Nat.reduceSub, Nat.reduceEqDiff, Int.reduceLT, Int.reduceLE, Int.reduceAdd, Int.reduceSub, Int.reduceMul, Int.reduceNeg, Int.reduceToNat, Int.reduceEq, Int.reduceAbs, Int.reducePow, mkN_eq, Int.zero_add, e2, cutD_nat, Nat.add_sub_cancel_left, i1, m2])
  have e3 : ((List.range (xs.length + 1 - w)).map fun k => PyData.int (newC s t ((xs.drop k).take w))) = (applyL s w t xs).map .int := by
    unfold applyL wins
    rw [List.map_map, List.map_map]; rfl
  rw [e3] at key
  have z : (applyL s w t xs).length ≤ 16777216 := by
    unfold applyL wins
    rw [List.length_map, List.length_map, List.length_range]; omega
  simp only [f__law_apply, F__law_apply, ev_seq, kSeq_nx, kSeq_rt, kSeq_bk, kSeq_ct, kSeq_ex, ev_nil, ev_pass, ev_break, ev_cont, ev_retn, ev_fg, fgt_nil, fgt_cons, ev_gh, kGh_some, ev_gfrz, kFrz_some, ev_gown, kOwn_full, kOwn_own, kOwn_val, ev_setZ, kSetZ_val, kSetZ_own, kSetZ_full, kSetZ_ex, ev_set, kSet_val, kSet_own, kSet_full, kSet_ex, ev_ret, kRet_val, kRet_own, kRet_full, kRet_ex, ev_retO, kRetO_own, kRetO_val, kRetO_full, ev_expr, kExpr_ok, kExpr_ex, ev_if, kIf_true, kIf_false, ev_for, kFor_ok, ev_while, ev_turn, kTurn1_some, kTurn_nx, kTurn_ct, kTurn_bk, kTurn_rt, kTurn_ex, ev_wturn, kW_true, kW_false, ev_gN, ev_gT, kT_some, itemsT_val, gSets_nil, gSets_val, mkv_int, mkv_bool, mkv_str, mkv_none, mkv_list, mkv_tuple, ev_unp, kUnp_val, kUnp_full, kU_some, ev_aug, kAug_val, kA_some, ev_app, kApp_val, kApp_own, kApp_full, ev_put, kPut_val, callF_eq, entE_nil, unds_succ, unds_zero, entE_cons, entS_int, entS_bool, entS_str, entS_none, entS_list, entS_tuple, kF_nx, kF_rt, kF_ex, frOf_val, frOf_own, frOf_full, ev_var, kVar_val, kVar_own, kVar_full, ev_c, ev_e2, k2_ok, okO_some, ev_e1, k1_ok, frz_val, frz_own, frz_full, frz_bor, frz_brf, dat_val, dat_bor, dat_brf, ev_evs0, ev_evs, kC_ok, ev_cb, kCB_ok, ev_call, kCall_ok, ev_cres, kRs_some, kRes_int, kRes_bool, kRes_str, kRes_none, kRes_list, kRes_tuple, kRes_false, kRes_exc, dats_nil, dats_cons, kD_some, isVal_val, isVal_bor, isVal_brf, ev_isa, kIsa_val, kIsa_own, kIsa_bor, kIsa_full, kIsa_brf, ev_and, kAnd_val, kAnd2_true, kAnd2_false, kAnd2_val, ev_or, kOr_val, kOr2_true, kOr2_false, kOr2_val, ev_not, kNot_val, ev_ife, kIfE_true, kIfE_false, ev_bof, kB_val, ev_tof, kTo_val, kTo_own, kTo_bor, kTo_full, kTo_brf, okB_some, truth_bool, truth_int, truth_none, truth_list, truth_tuple, ev_bnot, kNotB_ok, ev_band, kAndB_ok, kAndB2_true, kAndB2_false, kAndB2_ok, ev_bor, kOrB_ok, kOrB2_true, kOrB2_false, kOrB2_ok, ev_chain, kCh_ok, kCh2_false, kCh2_true, ev_fD, kD2_some, kS_int, kS_bool, kS_str, kS_none, ev_sub, ev_addI, ev_iadd, ev_div, ev_mod, ev_pow, ev_mulI, ev_neg, ev_eqI, ev_neI, ev_ltI, ev_leI, ev_gtI, ev_geI, ev_fD1, kD1_some, ev_int, ev_intb, ev_abs, ev_lenL, ev_lenT, ev_fI2, ev_catVV, ev_repV, ev_list, kLst_ok, ev_tup, kTup_ok, kMk_some, kMkT_some, stors_nil, stors_cons, kSt_some, stor_val, ev_ixL, ev_ixT, ev_ixB, atI_cast, atI_0, atI_1, atI_2, atI_3, atI_4, atI_5, atI_6, atI_7, ev_slice, kSl_val, kSl_own, kSl_bor, kSl_full, ev_pN, ev_pS, kP_int, ev_rev, ev_ls, ev_lsT, ev_tl, all_scal, ev_sorted, kSo_some, ev_iL, kIL_val, kIL_own, kIL_full, ev_iR, kR_1, kR_2, map_mkv_int, mkI_eq, rngI_eq, mkN_eq, ev_iR3, kR3_ok, rngC_eq, mkC_eq, ev_iM, kM_ok, kM2_some, mkEn_val, mkTp_val, ev_iZp, kZp_ok, mkZp_val, ev_lc, kLc_ok, kLcM_some, wipeE_nil, wipeE_cons, ev_byes, kE_val, kE_own, kE_full, kEl_some, kTl_some, ev_appAt, kAppAt_tuple, kAppAt_list, kAA_ok, ev_andI, ev_orI, ev_shr, ev_shl, List.getElem?_cons_zero, List.getElem?_cons_succ, List.set_cons_zero, List.set_cons_succ, List.all_nil, List.all_cons, Bool.and_true, Bool.true_and, Bool.or_true, Bool.true_or, Bool.or_false, Bool.false_or, Bool.and_false, Bool.false_and, Bool.not_true, Bool.not_false, Option.map_some, List.length_nil, List.length_cons, List.length_map, List.nil_append, List.map_cons, List.map_nil, scal_int, scal_bool, scal_str, scal_none, scal_list, scal_tuple, cd_true, cd_false, not_true_eq_false, not_false_eq_true, Nat.zero_le, and_self, true_and, and_true, ne_eq, not_false_eq_true, reduceIte, Nat.reduceLT, Nat.reduceLeDiff, Nat.reduceAdd, Nat.reduceMul, Nat.reduceSub, Nat.reduceEqDiff, Int.reduceLT, Int.reduceLE, Int.reduceAdd, Int.reduceSub, Int.reduceMul, Int.reduceNeg, Int.reduceToNat, Int.reduceEq, Int.reduceAbs, Int.reducePow, h6, rngI_eq, e1, key, z]

end
end PF

namespace PF
open PySem PySem.Spec PyProof.Rows L2 PL
noncomputable section
def B_number_of_1 : SF := (sSetZ 2 (e2 fAdd (e2 fMul (eVar 2) (eVar 0)) (eVar 3)))
def F_number_of : SF := (sSeq (sSetZ 2 (eC (.int 0)))
  (sSeq (sForD [3] (iL (eVar 1)) (gN 3)
  PF.B_number_of_1)
  (sRet (eVar 2))))
def f_number_of : FN := callF 4 F_number_of
theorem number_ok (cs : List Int) (s : Nat) (hs : s < 18446744073709551616) : f_number_of [.int s, .list (cs.map .int)] = some (.ret true (.int (idx s cs))) := by
  have hc : ∀ i : Int, cMul i s = true := fun i => cMul2 (by omega) (by omega)
  simp only [f_number_of, F_number_of, ev_seq, kSeq_nx, kSeq_rt, kSeq_bk, kSeq_ct, kSeq_ex, ev_nil, ev_pass, ev_break, ev_cont, ev_retn, ev_fg, fgt_nil, fgt_cons, ev_gh, kGh_some, ev_gfrz, kFrz_some, ev_gown, kOwn_full, kOwn_own, kOwn_val, ev_setZ, kSetZ_val, kSetZ_own, kSetZ_full, kSetZ_ex, ev_set, kSet_val, kSet_own, kSet_full, kSet_ex, ev_ret, kRet_val, kRet_own, kRet_full, kRet_ex, ev_retO, kRetO_own, kRetO_val, kRetO_full, ev_expr, kExpr_ok, kExpr_ex, ev_if, kIf_true, kIf_false, ev_for, kFor_ok, ev_while, ev_turn, kTurn1_some, kTurn_nx, kTurn_ct, kTurn_bk, kTurn_rt, kTurn_ex, ev_wturn, kW_true, kW_false, ev_gN, ev_gT, kT_some, itemsT_val, gSets_nil, gSets_val, mkv_int, mkv_bool, mkv_str, mkv_none, mkv_list, mkv_tuple, ev_unp, kUnp_val, kUnp_full, kU_some, ev_aug, kAug_val, kA_some, ev_app, kApp_val, kApp_own, kApp_full, ev_put, kPut_val, callF_eq, entE_nil, unds_succ, unds_zero, entE_cons, entS_int, entS_bool, entS_str, entS_none, entS_list, entS_tuple, kF_nx, kF_rt, kF_ex, frOf_val, frOf_own, frOf_full, ev_var, kVar_val, kVar_own, kVar_full, ev_c, ev_e2, k2_ok, okO_some, ev_e1, k1_ok, frz_val, frz_own, frz_full, frz_bor, frz_brf, dat_val, dat_bor, dat_brf, ev_evs0, ev_evs, kC_ok, ev_cb, kCB_ok, ev_call, kCall_ok, ev_cres, kRs_some, kRes_int, kRes_bool, kRes_str, kRes_none, kRes_list, kRes_tuple, kRes_false, kRes_exc, dats_nil, dats_cons, kD_some, isVal_val, isVal_bor, isVal_brf, ev_isa, kIsa_val, kIsa_own, kIsa_bor, kIsa_full, kIsa_brf, ev_and, kAnd_val, kAnd2_true, kAnd2_false, kAnd2_val, ev_or, kOr_val, kOr2_true, kOr2_false, kOr2_val, ev_not, kNot_val, ev_ife, kIfE_true, kIfE_false, ev_bof, kB_val, ev_tof, kTo_val, kTo_own, kTo_bor, kTo_full, kTo_brf, okB_some, truth_bool, truth_int, truth_none, truth_list, truth_tuple, ev_bnot, kNotB_ok, ev_band, kAndB_ok, kAndB2_true, kAndB2_false, kAndB2_ok, ev_bor, kOrB_ok, kOrB2_true, kOrB2_false, kOrB2_ok, ev_chain, kCh_ok, kCh2_false, kCh2_true, ev_fD, kD2_some, kS_int, kS_bool, kS_str, kS_none, ev_sub, ev_addI, ev_iadd, ev_div, ev_mod, ev_pow, ev_mulI, ev_neg, ev_eqI, ev_neI, ev_ltI, ev_leI, ev_gtI, ev_geI, ev_fD1, kD1_some, ev_int, ev_intb, ev_abs, ev_lenL, ev_lenT, ev_fI2, ev_catVV, ev_repV, ev_list, kLst_ok, ev_tup, kTup_ok, kMk_some, kMkT_some, stors_nil, stors_cons, kSt_some, stor_val, ev_ixL, ev_ixT, ev_ixB, atI_cast, atI_0, atI_1, atI_2, atI_3, atI_4, atI_5, atI_6, atI_7, ev_slice, kSl_val, kSl_own, kSl_bor, kSl_full, ev_pN, ev_pS, kP_int, ev_rev, ev_ls, ev_lsT, ev_tl, all_scal, ev_sorted, kSo_some, ev_iL, kIL_val, kIL_own, kIL_full, ev_iR, kR_1, kR_2, map_mkv_int, mkI_eq, rngI_eq, mkN_eq, ev_iR3, kR3_ok, rngC_eq, mkC_eq, ev_iM, kM_ok, kM2_some, mkEn_val, mkTp_val, ev_iZp, kZp_ok, mkZp_val, ev_lc, kLc_ok, kLcM_some, wipeE_nil, wipeE_cons, ev_byes, kE_val, kE_own, kE_full, kEl_some, kTl_some, ev_appAt, kAppAt_tuple, kAppAt_list, kAA_ok, ev_andI, ev_orI, ev_shr, ev_shl, List.getElem?_cons_zero, List.getElem?_cons_succ, List.set_cons_zero, List.set_cons_succ, List.all_nil, List.all_cons, Bool.and_true, Bool.true_and, Bool.or_true, Bool.true_or, Bool.or_false, Bool.false_or, Bool.and_false, Bool.false_and, Bool.not_true, Bool.not_false, Option.map_some, List.length_nil, List.length_cons, List.length_map, List.nil_append, List.map_cons, List.map_nil, scal_int, scal_bool, scal_str, scal_none, scal_list, scal_tuple, cd_true, cd_false, not_true_eq_false, not_false_eq_true, Nat.zero_le, and_self, true_and, and_true, ne_eq, not_false_eq_true, reduceIte, Nat.reduceLT, Nat.reduceLeDiff, Nat.reduceAdd, Nat.reduceMul, Nat.reduceSub, Nat.reduceEqDiff, Int.reduceLT, Int.reduceLE, Int.reduceAdd, Int.reduceSub, Int.reduceMul, Int.reduceNeg, Int.reduceToNat, Int.reduceEq, Int.reduceAbs, Int.reducePow]
  refine forT_nx (fun l ρ => ∃ a : Int, l.foldl (fun (a c : Int) => a * s + c) a = idx s cs ∧ ρ = [.val true (.int s), .val false (.list (cs.map .int)), .val true (.int a), .und]) (fun o => kF (kSeq o _) = _) ⟨0, rfl, rfl⟩ ?_ ?_
  · rintro a l ρ ⟨n, e1, rfl⟩
    simp only [B_number_of_1, ev_seq, kSeq_nx, kSeq_rt, kSeq_bk, kSeq_ct, kSeq_ex, ev_nil, ev_pass, ev_break, ev_cont, ev_retn, ev_fg, fgt_nil, fgt_cons, ev_gh, kGh_some, ev_gfrz, kFrz_some, ev_gown, kOwn_full, kOwn_own, kOwn_val, ev_setZ, kSetZ_val, kSetZ_own, kSetZ_full, kSetZ_ex, ev_set, kSet_val, kSet_own, kSet_full, kSet_ex, ev_ret, kRet_val, kRet_own, kRet_full, kRet_ex, ev_retO, kRetO_own, kRetO_val, kRetO_full, ev_expr, kExpr_ok, kExpr_ex, ev_if, kIf_true, kIf_false, ev_for, kFor_ok, ev_while, ev_turn, kTurn1_some, kTurn_nx, kTurn_ct, kTurn_bk, kTurn_rt, kTurn_ex, ev_wturn, kW_true, kW_false, ev_gN, ev_gT, kT_some, itemsT_val, gSets_nil, gSets_val, mkv_int, mkv_bool, mkv_str, mkv_none, mkv_list, mkv_tuple, ev_unp, kUnp_val, kUnp_full, kU_some, ev_aug, kAug_val, kA_some, ev_app, kApp_val, kApp_own, kApp_full, ev_put, kPut_val, callF_eq, entE_nil, unds_succ, unds_zero, entE_cons, entS_int, entS_bool, entS_str, entS_none, entS_list, entS_tuple, kF_nx, kF_rt, kF_ex, frOf_val, frOf_own, frOf_full, ev_var, kVar_val, kVar_own, kVar_full, ev_c, ev_e2, k2_ok, okO_some, ev_e1, k1_ok, frz_val, frz_own, frz_full, frz_bor, frz_brf, dat_val, dat_bor, dat_brf, ev_evs0, ev_evs, kC_ok, ev_cb, kCB_ok, ev_call, kCall_ok, ev_cres, kRs_some, kRes_int, kRes_bool, kRes_str, kRes_none, kRes_list, kRes_tuple, kRes_false, kRes_exc, dats_nil, dats_cons, kD_some, isVal_val, isVal_bor, isVal_brf, ev_isa, kIsa_val, kIsa_own, kIsa_bor, kIsa_full, kIsa_brf, ev_and, kAnd_val, kAnd2_true, kAnd2_false, kAnd2_val, ev_or, kOr_val, kOr2_true, kOr2_false, kOr2_val, ev_not, kNot_val, ev_ife, kIfE_true, kIfE_false, ev_bof, kB_val, ev_tof, kTo_val, kTo_own, kTo_bor, kTo_full, kTo_brf, okB_some, truth_bool, truth_int, truth_none, truth_list, truth_tuple, ev_bnot, kNotB_ok, ev_band, kAndB_ok, kAndB2_true, kAndB2_false, kAndB2_ok, ev_bor, kOrB_ok, kOrB2_true, kOrB2_false, kOrB2_ok, ev_chain, kCh_ok, kCh2_false, kCh2_true, ev_fD, kD2_some, kS_int, kS_bool, kS_str, kS_none, ev_sub, ev_addI, ev_iadd, ev_div, ev_mod, ev_pow, ev_mulI, ev_neg, ev_eqI, ev_neI, ev_ltI, ev_leI, ev_gtI, ev_geI, ev_fD1, kD1_some, ev_int, ev_intb, ev_abs, ev_lenL, ev_lenT, ev_fI2, ev_catVV, ev_repV, ev_list, kLst_ok, ev_tup, kTup_ok, kMk_some, kMkT_some, stors_nil, stors_cons, kSt_some, stor_val, ev_ixL, ev_ixT, ev_ixB, atI_cast, atI_0, atI_1, atI_2, atI_3, atI_4, atI_5, atI_6, atI_7, ev_slice, kSl_val, kSl_own, kSl_bor, kSl_full, ev_pN, ev_pS, kP_int, ev_rev, ev_ls, ev_lsT, ev_tl, all_scal, ev_sorted, kSo_some, ev_iL, kIL_val, kIL_own, kIL_full, ev_iR, kR_1, kR_2, map_mkv_int, mkI_eq, rngI_eq, mkN_eq, ev_iR3, kR3_ok, rngC_eq, mkC_eq, ev_iM, kM_ok, kM2_some, mkEn_val, mkTp_val, ev_iZp, kZp_ok, mkZp_val, ev_lc, kLc_ok, kLcM_some, wipeE_nil, wipeE_cons, ev_byes, kE_val, kE_own, kE_full, kEl_some, kTl_some, ev_appAt, kAppAt_tuple, kAppAt_list, kAA_ok, ev_andI, ev_orI, ev_shr, ev_shl, List.getElem?_cons_zero, List.getElem?_cons_succ, List.set_cons_zero, List.set_cons_succ, List.all_nil, List.all_cons, Bool.and_true, Bool.true_and, Bool.or_true, Bool.true_or, Bool.or_false, Bool.false_or, Bool.and_false, Bool.false_and, Bool.not_true, Bool.not_false, Option.map_some, List.length_nil, List.length_cons, List.length_map, List.nil_append, List.map_cons, List.map_nil, scal_int, scal_bool, scal_str, scal_none, scal_list, scal_tuple, cd_true, cd_false, not_true_eq_false, not_false_eq_true, Nat.zero_le, and_self, true_and, and_true, ne_eq, not_false_eq_true, reduceIte, Nat.reduceLT, Nat.reduceLeDiff, Nat.reduceAdd, Nat.reduceMul, Nat.reduceSub, Nat.reduceEqDiff, Int.reduceLT, Int.reduceLE, Int.reduceAdd, Int.reduceSub, Int.reduceMul, Int.reduceNeg, Int.reduceToNat, Int.reduceEq, Int.reduceAbs, Int.reducePow, mkI_eq, hc]
    exact ⟨_, rfl, _, e1, rfl⟩
  · rintro ρ ⟨n, e1, rfl⟩
    simp only [ev_seq, kSeq_nx, kSeq_rt, kSeq_bk, kSeq_ct, kSeq_ex, ev_nil, ev_pass, ev_break, ev_cont, ev_retn, ev_fg, fgt_nil, fgt_cons, ev_gh, kGh_some, ev_gfrz, kFrz_some, ev_gown, kOwn_full, kOwn_own, kOwn_val, ev_setZ, kSetZ_val, kSetZ_own, kSetZ_full, kSetZ_ex, ev_set, kSet_val, kSet_own, kSet_full, kSet_ex, ev_ret, kRet_val, kRet_own, kRet_full, kRet_ex, ev_retO, kRetO_own, kRetO_val, kRetO_full, ev_expr, kExpr_ok, kExpr_ex, ev_if, kIf_true, kIf_false, ev_for, kFor_ok, ev_while, ev_turn, kTurn1_some, kTurn_nx, kTurn_ct, kTurn_bk, kTurn_rt, kTurn_ex, ev_wturn, kW_true, kW_false, ev_gN, ev_gT, kT_some, itemsT_val, gSets_nil, gSets_val, mkv_int, mkv_bool, mkv_str, mkv_none, mkv_list, mkv_tuple, ev_unp, kUnp_val, kUnp_full, kU_some, ev_aug, kAug_val, kA_some, ev_app, kApp_val, kApp_own, kApp_full, ev_put, kPut_val, callF_eq, entE_nil, unds_succ, unds_zero, entE_cons, entS_int, entS_bool, entS_str, entS_none, entS_list, entS_tuple, kF_nx, kF_rt, kF_ex, frOf_val, frOf_own, frOf_full, ev_var, kVar_val, kVar_own, kVar_full, ev_c, ev_e2, k2_ok, okO_some, ev_e1, k1_ok, frz_val, frz_own, frz_full, frz_bor, frz_brf, dat_val, dat_bor, dat_brf, ev_evs0, ev_evs, kC_ok, ev_cb, kCB_ok, ev_call, kCall_ok, ev_cres, kRs_some, kRes_int, kRes_bool, kRes_str, kRes_none, kRes_list, kRes_tuple, kRes_false, kRes_exc, dats_nil, dats_cons, kD_some, isVal_val, isVal_bor, isVal_brf, ev_isa, kIsa_val, kIsa_own, kIsa_bor, kIsa_full, kIsa_brf, ev_and, kAnd_val, kAnd2_true, kAnd2_false, kAnd2_val, ev_or, kOr_val, kOr2_true, kOr2_false, kOr2_val, ev_not, kNot_val, ev_ife, kIfE_true, kIfE_false, ev_bof, kB_val, ev_tof, kTo_val, kTo_own, kTo_bor, kTo_full, kTo_brf, okB_some, truth_bool, truth_int, truth_none, truth_list, truth_tuple, ev_bnot, kNotB_ok, ev_band, kAndB_ok, kAndB2_true, kAndB2_false, kAndB2_ok, ev_bor, kOrB_ok, kOrB2_true, kOrB2_false, kOrB2_ok, ev_chain, kCh_ok, kCh2_false, kCh2_true, ev_fD, kD2_some, kS_int, kS_bool, kS_str, kS_none, ev_sub, ev_addI, ev_iadd, ev_div, ev_mod, ev_pow, ev_mulI, ev_neg, ev_eqI, ev_neI, ev_ltI, ev_leI, ev_gtI, ev_geI, ev_fD1, kD1_some, ev_int, ev_intb, ev_abs, ev_lenL, ev_lenT, ev_fI2, ev_catVV, ev_repV, ev_list, kLst_ok, ev_tup, kTup_ok, kMk_some, kMkT_some, stors_nil, stors_cons, kSt_some, stor_val, ev_ixL, ev_ixT, ev_ixB, atI_cast, atI_0, atI_1, atI_2, atI_3, atI_4, atI_5, atI_6, atI_7, ev_slice, kSl_val, kSl_own, kSl_bor, kSl_full, ev_pN, ev_pS, kP_int, ev_rev, ev_ls, ev_lsT, ev_tl, all_scal, ev_sorted, kSo_some, ev_iL, kIL_val, kIL_own, kIL_full, ev_iR, kR_1, kR_2, map_mkv_int, mkI_eq, rngI_eq, mkN_eq, ev_iR3, kR3_ok, rngC_eq, mkC_eq, ev_iM, kM_ok, kM2_some, mkEn_val, mkTp_val, ev_iZp, kZp_ok, mkZp_val, ev_lc, kLc_ok, kLcM_some, wipeE_nil, wipeE_cons, ev_byes, kE_val, kE_own, kE_full, kEl_some, kTl_some, ev_appAt, kAppAt_tuple, kAppAt_list, kAA_ok, ev_andI, ev_orI, ev_shr, ev_shl, List.getElem?_cons_zero, List.getElem?_cons_succ, List.set_cons_zero, List.set_cons_succ, List.all_nil, List.all_cons, Bool.and_true, Bool.true_and, Bool.or_true, Bool.true_or, Bool.or_false, Bool.false_or, Bool.and_false, Bool.false_and, Bool.not_true, Bool.not_false, Option.map_some, List.length_nil, List.length_cons, List.length_map, List.nil_append, List.map_cons, List.map_nil, scal_int, scal_bool, scal_str, scal_none, scal_list, scal_tuple, cd_true, cd_false, not_true_eq_false, not_false_eq_true, Nat.zero_le, and_self, true_and, and_true, ne_eq, not_false_eq_true, reduceIte, Nat.reduceLT, Nat.reduceLeDiff, Nat.reduceAdd, Nat.reduceMul, Nat.reduceSub, Nat.reduceEqDiff, Int.reduceLT, Int.reduceLE, Int.reduceAdd, Int.reduceSub, Int.reduceMul, Int.reduceNeg, Int.reduceToNat, Int.reduceEq, Int.reduceAbs, Int.reducePow]
    rw [← e1]; rfl
def F_new_cell : SF := (sRet (e2 fIx (e2 fIx (eVar 0) (eC (.int 3))) (eCall PF.f_number_of [(e2 fIx (eVar 0) (eC (.int 0))), (eVar 1)])))
def f_new_cell : FN := callF 2 F_new_cell
theorem new_cell_ok {s w : Nat} {o : Int} {t ws : List Int} (hs : 0 < s) (hs' : s < 18446744073709551616) (ht : t.length = s ^ w) (hw : ws.length = w) (h : ∀ c ∈ ws, 0 ≤ c ∧ c < (s : Int)) : f_new_cell [mapD s o w t, .list (ws.map .int)] = some (.ret true (.int (newC s t ws))) := by
  obtain ⟨m, m1, m2⟩ := win_at hs ht hw h
  have n1 := number_ok ws s hs'
  rw [m1] at n1
  simp only [f_new_cell, F_new_cell, ev_seq, kSeq_nx, kSeq_rt, kSeq_bk, kSeq_ct, kSeq_ex, ev_nil, ev_pass, ev_break, ev_cont, ev_retn, ev_fg, fgt_nil, fgt_cons, ev_gh, kGh_some, ev_gfrz, kFrz_some, ev_gown, kOwn_full, kOwn_own, kOwn_val, ev_setZ, kSetZ_val, kSetZ_own, kSetZ_full, kSetZ_ex, ev_set, kSet_val, kSet_own, kSet_full, kSet_ex, ev_ret, kRet_val, kRet_own, kRet_full, kRet_ex, ev_retO, kRetO_own, kRetO_val, kRetO_full, ev_expr, kExpr_ok, kExpr_ex, ev_if, kIf_true, kIf_false, ev_for, kFor_ok, ev_while, ev_turn, kTurn1_some, kTurn_nx, kTurn_ct, kTurn_bk, kTurn_rt, kTurn_ex, ev_wturn, kW_true, kW_false, ev_gN, ev_gT, kT_some, itemsT_val, gSets_nil, gSets_val, mkv_int, mkv_bool, mkv_str, mkv_none, mkv_list, mkv_tuple, ev_unp, kUnp_val, kUnp_full, kU_some, ev_aug, kAug_val, kA_some, ev_app, kApp_val, kApp_own, kApp_full, ev_put, kPut_val, callF_eq, entE_nil, unds_succ, unds_zero, entE_cons, entS_int, entS_bool, entS_str, entS_none, entS_list, entS_tuple, kF_nx, kF_rt, kF_ex, frOf_val, frOf_own, frOf_full, ev_var, kVar_val, kVar_own, kVar_full, ev_c, ev_e2, k2_ok, okO_some, ev_e1, k1_ok, frz_val, frz_own, frz_full, frz_bor, frz_brf, dat_val, dat_bor, dat_brf, ev_evs0, ev_evs, kC_ok, ev_cb, kCB_ok, ev_call, kCall_ok, ev_cres, kRs_some, kRes_int, kRes_bool, kRes_str, kRes_none, kRes_list, kRes_tuple, kRes_false, kRes_exc, dats_nil, dats_cons, kD_some, isVal_val, isVal_bor, isVal_brf, ev_isa, kIsa_val, kIsa_own, kIsa_bor, kIsa_full, kIsa_brf, ev_and, kAnd_val, kAnd2_true, kAnd2_false, kAnd2_val, ev_or, kOr_val, kOr2_true, kOr2_false, kOr2_val, ev_not, kNot_val, ev_ife, kIfE_true, kIfE_false, ev_bof, kB_val, ev_tof, kTo_val, kTo_own, kTo_bor, kTo_full, kTo_brf, okB_some, truth_bool, truth_int, truth_none, truth_list, truth_tuple, ev_bnot, kNotB_ok, ev_band, kAndB_ok, kAndB2_true, kAndB2_false, kAndB2_ok, ev_bor, kOrB_ok, kOrB2_true, kOrB2_false, kOrB2_ok, ev_chain, kCh_ok, kCh2_false, kCh2_true, ev_fD, kD2_some, kS_int, kS_bool, kS_str, kS_none, ev_sub, ev_addI, ev_iadd, ev_div, ev_mod, ev_pow, ev_mulI, ev_neg, ev_eqI, ev_neI, ev_ltI, ev_leI, ev_gtI, ev_geI, ev_fD1, kD1_some, ev_int, ev_intb, ev_abs, ev_lenL, ev_lenT, ev_fI2, ev_catVV, ev_repV, ev_list, kLst_ok, ev_tup, kTup_ok, kMk_some, kMkT_some, stors_nil, stors_cons, kSt_some, stor_val, ev_ixL, ev_ixT, ev_ixB, atI_cast, atI_0, atI_1, atI_2, atI_3, atI_4, atI_5, atI_6, atI_7, ev_slice, kSl_val, kSl_own, kSl_bor, kSl_full, ev_pN, ev_pS, kP_int, ev_rev, ev_ls, ev_lsT, ev_tl, all_scal, ev_sorted, kSo_some, ev_iL, kIL_val, kIL_own, kIL_full, ev_iR, kR_1, kR_2, map_mkv_int, mkI_eq, rngI_eq, mkN_eq, ev_iR3, kR3_ok, rngC_eq, mkC_eq, ev_iM, kM_ok, kM2_some, mkEn_val, mkTp_val, ev_iZp, kZp_ok, mkZp_val, ev_lc, kLc_ok, kLcM_some, wipeE_nil, wipeE_cons, ev_byes, kE_val, kE_own, kE_full, kEl_some, kTl_some, ev_appAt, kAppAt_tuple, kAppAt_list, kAA_ok, ev_andI, ev_orI, ev_shr, ev_shl, List.getElem?_cons_zero, List.getElem?_cons_succ, List.set_cons_zero, List.set_cons_succ, List.all_nil, List.all_cons, Bool.and_true, Bool.true_and, Bool.or_true, Bool.true_or, Bool.or_false, Bool.false_or, Bool.and_false, Bool.false_and, Bool.not_true, Bool.not_false, Option.map_some, List.length_nil, List.length_cons, List.length_map, List.nil_append, List.map_cons, List.map_nil, scal_int, scal_bool, scal_str, scal_none, scal_list, scal_tuple, cd_true, cd_false, not_true_eq_false, not_false_eq_true, Nat.zero_le, and_self, true_and, and_true, ne_eq, not_false_eq_true, reduceIte, Nat.reduceLT, Nat.reduceLeDiff, Nat.reduceAdd, Nat.reduceMul, Nat.reduceSub, Nat.reduceEqDiff, Int.reduceLT, Int.reduceLE, Int.reduceAdd, Int.reduceSub, Int.reduceMul, Int.reduceNeg, Int.reduceToNat, Int.reduceEq, Int.reduceAbs, Int.reducePow, atI_0, atI_3, n1, m2]
def C_apply_word_1 : EF := (eCall PF.f_new_cell [(eVar 0), (eSl (eVar 1) (pS (eVar 3)) (pS (e2 fAdd (eVar 3) (eVar 2))))])
def F_apply_word : SF := (sSeq (sSetZ 2 (e2 fIx (eVar 0) (eC (.int 2))))
  (sRet (eLc (iR [(e2 fAdd (e2 (fD gSub) (eCB (fD1 gLen) [(eVar 1)]) (eVar 2)) (eC (.int 1)))]) [3] (gN 3) bYes PF.C_apply_word_1)))
def f_apply_word : FN := callF 4 F_apply_word
theorem apply_word_ok {s w : Nat} {o : Int} {t xs : List Int} (hs : 0 < s) (hs' : s < 18446744073709551616) (ht : t.length = s ^ w) (hx : ∀ c ∈ xs, 0 ≤ c ∧ c < (s : Int)) (hl : xs.length < 16777216) (hw : w < 16777216) : f_apply_word [mapD s o w t, .list (xs.map .int)] = some (.ret true (.list ((applyL s w t xs).map .int))) := by
  have h6 : small62 ((xs.length : Int) - w + 1) = true := small62_ok (by omega) (by omega)
  have e1 : ((xs.length : Int) - w + 1 - 0).toNat = xs.length + 1 - w := by omega
  have key := lcL_map (t := gN 3) (elt := C_apply_word_1) (ρ := [.val false (mapD s o w t), .val false (.list (xs.map .int)), .val true (.int w), .und]) (mk := mkN 0) (r := fun k => .int (newC s t ((xs.drop k).take w))) (List.range (xs.length + 1 - w)) (fun k hk => by
    rw [List.mem_range] at hk
    have e2 : (k : Int) + w = ((k + w : Nat) : Int) := by omega
    have i1 := new_cell_ok (o := o) hs hs' ht (win_len hk) (cells_in hx k w)
    rw [List.map_take, List.map_drop] at i1
    simp only [C_apply_word_1, ev_seq, kSeq_nx, kSeq_rt, kSeq_bk, kSeq_ct, kSeq_ex, ev_nil, ev_pass, ev_break, ev_cont, ev_retn, ev_fg, fgt_nil, fgt_cons, ev_gh, kGh_some, ev_gfrz, kFrz_some, ev_gown, kOwn_full, kOwn_own, kOwn_val, ev_setZ, kSetZ_val, kSetZ_own, kSetZ_full, kSetZ_ex, ev_set, kSet_val, kSet_own, kSet_full, kSet_ex, ev_ret, kRet_val, kRet_own, kRet_full, kRet_ex, ev_retO, kRetO_own, kRetO_val, kRetO_full, ev_expr, kExpr_ok, kExpr_ex, ev_if, kIf_true, kIf_false, ev_for, kFor_ok, ev_while, ev_turn, kTurn1_some, kTurn_nx, kTurn_ct, kTurn_bk, kTurn_rt, kTurn_ex, ev_wturn, kW_true, kW_false, ev_gN, ev_gT, kT_some, itemsT_val, gSets_nil, gSets_val, mkv_int, mkv_bool, mkv_str, mkv_none, mkv_list, mkv_tuple, ev_unp, kUnp_val, kUnp_full, kU_some, ev_aug, kAug_val, kA_some, ev_app, kApp_val, kApp_own, kApp_full, ev_put, kPut_val, callF_eq, entE_nil, unds_succ, unds_zero, entE_cons, entS_int, entS_bool, entS_str, entS_none, entS_list, entS_tuple, kF_nx, kF_rt, kF_ex, frOf_val, frOf_own, frOf_full, ev_var, kVar_val, kVar_own, kVar_full, ev_c, ev_e2, k2_ok, okO_some, ev_e1, k1_ok, frz_val, frz_own, frz_full, frz_bor, frz_brf, dat_val, dat_bor, dat_brf, ev_evs0, ev_evs, kC_ok, ev_cb, kCB_ok, ev_call, kCall_ok, ev_cres, kRs_some, kRes_int, kRes_bool, kRes_str, kRes_none, kRes_list, kRes_tuple, kRes_false, kRes_exc, dats_nil, dats_cons, kD_some, isVal_val, isVal_bor, isVal_brf, ev_isa, kIsa_val, kIsa_own, kIsa_bor, kIsa_full, kIsa_brf, ev_and, kAnd_val, kAnd2_true, kAnd2_false, kAnd2_val, ev_or, kOr_val, kOr2_true, kOr2_false, kOr2_val, ev_not, kNot_val, ev_ife, kIfE_true, kIfE_false, ev_bof, kB_val, ev_tof, kTo_val, kTo_own, kTo_bor, kTo_full, kTo_brf, okB_some, truth_bool, truth_int, truth_none, truth_list, truth_tuple, ev_bnot, kNotB_ok, ev_band, kAndB_ok, kAndB2_true, kAndB2_false, kAndB2_ok, ev_bor, kOrB_ok, kOrB2_true, kOrB2_false, kOrB2_ok, ev_chain, kCh_ok, kCh2_false, kCh2_true, ev_fD, kD2_some, kS_int, kS_bool, kS_str, kS_none, ev_sub, ev_addI, ev_iadd, ev_div, ev_mod, ev_pow, ev_mulI, ev_neg, ev_eqI, ev_neI, ev_ltI, ev_leI, ev_gtI, ev_geI, ev_fD1, kD1_some, ev_int, ev_intb, ev_abs, ev_lenL, ev_lenT, ev_fI2, ev_catVV, ev_repV, ev_list, kLst_ok, ev_tup, kTup_ok, kMk_some, kMkT_some, stors_nil, stors_cons, kSt_some, stor_val, ev_ixL, ev_ixT, ev_ixB, atI_cast, atI_0, atI_1, atI_2, atI_3, atI_4, atI_5, atI_6, atI_7, ev_slice, kSl_val, kSl_own, kSl_bor, kSl_full, ev_pN, ev_pS, kP_int, ev_rev, ev_ls, ev_lsT, ev_tl, all_scal, ev_sorted, kSo_some, ev_iL, kIL_val, kIL_own, kIL_full, ev_iR, kR_1, kR_2, map_mkv_int, mkI_eq, rngI_eq, mkN_eq, ev_iR3, kR3_ok, rngC_eq, mkC_eq, ev_iM, kM_ok, kM2_some, mkEn_val, mkTp_val, ev_iZp, kZp_ok, mkZp_val, ev_lc, kLc_ok, kLcM_some, wipeE_nil, wipeE_cons, ev_byes, kE_val, kE_own, kE_full, kEl_some, kTl_some, ev_appAt, kAppAt_tuple, kAppAt_list, kAA_ok, ev_andI, ev_orI, ev_shr, ev_shl, List.getElem?_cons_zero, List.getElem?_cons_succ, List.set_cons_zero, List.set_cons_succ, List.all_nil, List.all_cons, Bool.and_true, Bool.true_and, Bool.or_true, Bool.true_or, Bool.or_false, Bool.false_or, Bool.and_false, Bool.false_and, Bool.not_true, Bool.not_false, Option.map_some, List.length_nil, List.length_cons, List.length_map, List.nil_append, List.map_cons, List.map_nil, scal_int, scal_bool, scal_str, scal_none, scal_list, scal_tuple, cd_true, cd_false, not_true_eq_false, not_false_eq_true, Nat.zero_le, and_self, true_and, and_true, ne_eq, not_false_eq_true, reduceIte, Nat.reduceLT, Nat.reduceLeDiff, Nat.reduceAdd, Nat.reduceMul, Nat.reduceSub, Nat.reduceEqDiff, Int.reduceLT, Int.reduceLE, Int.reduceAdd, Int.reduceSub, Int.reduceMul, Int.reduceNeg, Int.reduceToNat, Int.reduceEq, Int.reduceAbs, Int.reducePow, mkN_eq, Int.zero_add, e2, cutD_nat, Nat.add_sub_cancel_left, i1])
  have e3 : ((List.range (xs.length + 1 - w)).map fun k => PyData.int (newC s t ((xs.drop k).take w))) = (applyL s w t xs).map .int := by
    unfold applyL wins
    rw [List.map_map, List.map_map]; rfl
  rw [e3] at key
  have z : (applyL s w t xs).length ≤ 16777216 := by
    unfold applyL wins
    rw [List.length_map, List.length_map, List.length_range]; omega
  simp only [f_apply_word, F_apply_word, ev_seq, kSeq_nx, kSeq_rt, kSeq_bk, kSeq_ct, kSeq_ex, ev_nil, ev_pass, ev_break, ev_cont, ev_retn, ev_fg, fgt_nil, fgt_cons, ev_gh, kGh_some, ev_gfrz, kFrz_some, ev_gown, kOwn_full, kOwn_own, kOwn_val, ev_setZ, kSetZ_val, kSetZ_own, kSetZ_full, kSetZ_ex, ev_set, kSet_val, kSet_own, kSet_full, kSet_ex, ev_ret, kRet_val, kRet_own, kRet_full, kRet_ex, ev_retO, kRetO_own, kRetO_val, kRetO_full, ev_expr, kExpr_ok, kExpr_ex, ev_if, kIf_true, kIf_false, ev_for, kFor_ok, ev_while, ev_turn, kTurn1_some, kTurn_nx, kTurn_ct, kTurn_bk, kTurn_rt, kTurn_ex, ev_wturn, kW_true, kW_false, ev_gN, ev_gT, kT_some, itemsT_val, gSets_nil, gSets_val, mkv_int, mkv_bool, mkv_str, mkv_none, mkv_list, mkv_tuple, ev_unp, kUnp_val, kUnp_full, kU_some, ev_aug, kAug_val, kA_some, ev_app, kApp_val, kApp_own, kApp_full, ev_put, kPut_val, callF_eq, entE_nil, unds_succ, unds_zero, entE_cons, entS_int, entS_bool, entS_str, entS_none, entS_list, entS_tuple, kF_nx, kF_rt, kF_ex, frOf_val, frOf_own, frOf_full, ev_var, kVar_val, kVar_own, kVar_full, ev_c, ev_e2, k2_ok, okO_some, ev_e1, k1_ok, frz_val, frz_own, frz_full, frz_bor, frz_brf, dat_val, dat_bor, dat_brf, ev_evs0, ev_evs, kC_ok, ev_cb, kCB_ok, ev_call, kCall_ok, ev_cres, kRs_some, kRes_int, kRes_bool, kRes_str, kRes_none, kRes_list, kRes_tuple, kRes_false, kRes_exc, dats_nil, dats_cons, kD_some, isVal_val, isVal_bor, isVal_brf, ev_isa, kIsa_val, kIsa_own, kIsa_bor, kIsa_full, kIsa_brf, ev_and, kAnd_val, kAnd2_true, kAnd2_false, kAnd2_val, ev_or, kOr_val, kOr2_true, kOr2_false, kOr2_val, ev_not, kNot_val, ev_ife, kIfE_true, kIfE_false, ev_bof, kB_val, ev_tof, kTo_val, kTo_own, kTo_bor, kTo_full, kTo_brf, okB_some, truth_bool, truth_int, truth_none, truth_list, truth_tuple, ev_bnot, kNotB_ok, ev_band, kAndB_ok, kAndB2_true, kAndB2_false, kAndB2_ok, ev_bor, kOrB_ok, kOrB2_true, kOrB2_false, kOrB2_ok, ev_chain, kCh_ok, kCh2_false, kCh2_true, ev_fD, kD2_some, kS_int, kS_bool, kS_str, kS_none, ev_sub, ev_addI, ev_iadd, ev_div, ev_mod, ev_pow, ev_mulI, ev_neg, ev_eqI, ev_neI, ev_ltI, ev_leI, ev_gtI, ev_geI, ev_fD1, kD1_some, ev_int, ev_intb, ev_abs, ev_lenL, ev_lenT, ev_fI2, ev_catVV, ev_repV, ev_list, kLst_ok, ev_tup, kTup_ok, kMk_some, kMkT_some, stors_nil, stors_cons, kSt_some, stor_val, ev_ixL, ev_ixT, ev_ixB, atI_cast, atI_0, atI_1, atI_2, atI_3, atI_4, atI_5, atI_6, atI_7, ev_slice, kSl_val, kSl_own, kSl_bor, kSl_full, ev_pN, ev_pS, kP_int, ev_rev, ev_ls, ev_lsT, ev_tl, all_scal, ev_sorted, kSo_some, ev_iL, kIL_val, kIL_own, kIL_full, ev_iR, kR_1, kR_2, map_mkv_int, mkI_eq, rngI_eq, mkN_eq, ev_iR3, kR3_ok, rngC_eq, mkC_eq, ev_iM, kM_ok, kM2_some, mkEn_val, mkTp_val, ev_iZp, kZp_ok, mkZp_val, ev_lc, kLc_ok, kLcM_some, wipeE_nil, wipeE_cons, ev_byes, kE_val, kE_own, kE_full, kEl_some, kTl_some, ev_appAt, kAppAt_tuple, kAppAt_list, kAA_ok, ev_andI, ev_orI, ev_shr, ev_shl, List.getElem?_cons_zero, List.getElem?_cons_succ, List.set_cons_zero, List.set_cons_succ, List.all_nil, List.all_cons, Bool.and_true, Bool.true_and, Bool.or_true, Bool.true_or, Bool.or_false, Bool.false_or, Bool.and_false, Bool.false_and, Bool.not_true, Bool.not_false, Option.map_some, List.length_nil, List.length_cons, List.length_map, List.nil_append, List.map_cons, List.map_nil, scal_int, scal_bool, scal_str, scal_none, scal_list, scal_tuple, cd_true, cd_false, not_true_eq_false, not_false_eq_true, Nat.zero_le, and_self, true_and, and_true, ne_eq, not_false_eq_true, reduceIte, Nat.reduceLT, Nat.reduceLeDiff, Nat.reduceAdd, Nat.reduceMul, Nat.reduceSub, Nat.reduceEqDiff, Int.reduceLT, Int.reduceLE, Int.reduceAdd, Int.reduceSub, Int.reduceMul, Int.reduceNeg, Int.reduceToNat, Int.reduceEq, Int.reduceAbs, Int.reducePow, atI_2, h6, rngI_eq, e1, key, z]
theorem mapD_okR {s w : Nat} {o : Int} {t : List Int} (h : VMap s o w t) : okR (mapD s o w t) = true := by
  have h1 := h.s4; have h2 := h.w6; have h3 := h.o1; have h4 := h.o2
  have h5 : okRs (t.map .int) = true := okRs_ints fun c hc => by have := h.cell c hc; omega
  simp only [mapD, okR, okRs, h5, Bool.and_true, Bool.and_eq_true, decide_eq_true_eq]
  omega
theorem mapD_nn {s w : Nat} {o : Int} {t : List Int} : nn (mapD s o w t) = 42 * t.length + 129 := by
  simp only [mapD, nn, nns, nns_ints]; omega
theorem mapD_depth {s w : Nat} {o : Int} {t : List Int} : (mapD s o w t).depth = 2 := by
  simp only [mapD, PyData.depth, PyData.depthAll, depths_ints]; omega
theorem pair_repr {s w : Nat} {o : Int} {t xs : List Int} (h : VMap s o w t) (hx : ∀ c ∈ xs, c.natAbs < 1000000000000) (hl : xs.length ≤ 10000) : gRepr (.list [mapD s o w t, .list (xs.map .int)]) = some (.str (PyData.list [mapD s o w t, .list (xs.map .int)]).shown) := by
  refine gRepr_ok ?_ ?_ ?_
  · have h0 := mapD_okR h
    simp only [okR, okRs, okRs_ints hx, Bool.and_true] at h0 ⊢; exact h0
  · have h1 := pow46 h.s4 h.w6 (by have := h.s2; omega)
    have h2 := h.len
    simp only [nn, nns, nns_ints]
    omega
  · simp only [PyData.depth, PyData.depthAll, depths_ints]; omega
theorem ints_repr {xs : List Int} (hx : ∀ c ∈ xs, c.natAbs < 1000000000000) (hl : xs.length ≤ 20000) : gRepr (.list (xs.map .int)) = some (.str (PyData.list (xs.map .int)).shown) := by
  refine gRepr_ok ?_ ?_ ?_
  · simp only [okR, okRs_ints hx]
  · simp only [nn, nns_ints]; omega
  · simp only [PyData.depth, depths_ints]; omega
theorem newC_in {s : Nat} {t : List Int} (hs : 0 < s) (h : ∀ c ∈ t, 0 ≤ c ∧ c < (s : Int)) (ws : List Int) : 0 ≤ newC s t ws ∧ newC s t ws < (s : Int) := by
  unfold newC
  rw [List.getD_eq_getElem?_getD]
  cases e : t[(idx s ws).toNat]? with
  | none => simp; omega
  | some c => exact h c (List.mem_of_getElem? e)
theorem apply_in {s w : Nat} {t xs : List Int} (hs : 0 < s) (h : ∀ c ∈ t, 0 ≤ c ∧ c < (s : Int)) : ∀ c ∈ applyL s w t xs, 0 ≤ c ∧ c < (s : Int) := fun c hc => by
  unfold applyL at hc
  obtain ⟨ws, -, rfl⟩ := List.mem_map.mp hc
  exact newC_in hs h ws
theorem apply_len (s w : Nat) (t xs : List Int) : (applyL s w t xs).length = xs.length + 1 - w := by
  unfold applyL wins
  rw [List.length_map, List.length_map, List.length_range]
theorem apply_at {s w : Nat} {t xs : List Int} {k : Nat} (h : k < xs.length + 1 - w) : ((applyL s w t xs).map PyData.int)[k]? = some (.int (newC s t ((xs.drop k).take w))) := by
  unfold applyL wins
  rw [List.getElem?_map, List.getElem?_map, List.getElem?_map, List.getElem?_eq_getElem (by rw [List.length_range]; exact h), List.getElem_range]
  rfl

end
end PF

namespace PF
open PySem PySem.Spec PyProof.Rows L2 PL
noncomputable section
/-- the cell of a round row -/
def rc (row : List Int) (p : Int) : Int := row.getD (p % row.length).toNat 0
def rwin (row : List Int) (p : Int) (w : Nat) : List Int := (List.range w).map fun (j : Nat) => rc row (p + (j : Int))
def roundL (s : Nat) (o : Int) (w : Nat) (t row : List Int) : List Int := (List.range row.length).map fun (k : Nat) => newC s t (rwin row ((k : Int) + o) w)
theorem mod_at {row : List Int} (h : row ≠ []) (p : Int) : ∃ m : Nat, p % (row.length : Int) = m ∧ m < row.length ∧ (row.map PyData.int)[m]? = some (.int (rc row p)) := by
  have h0 : 0 < row.length := List.length_pos_iff.mpr h
  have h1 := Int.emod_nonneg p (show (row.length : Int) ≠ 0 by omega)
  have h2 := Int.emod_lt_of_pos p (show (0 : Int) < row.length by omega)
  obtain ⟨m, hm⟩ := Int.eq_ofNat_of_zero_le h1
  have hl : m < row.length := by omega
  refine ⟨m, hm, hl, ?_⟩
  rw [at_mem hl]
  unfold rc
  rw [hm, Int.toNat_natCast, List.getD_eq_getElem?_getD, List.getElem?_eq_getElem hl]; rfl
theorem rc_mem {row : List Int} (h : row ≠ []) (p : Int) : rc row p ∈ row := by
  obtain ⟨m, h1, h2, h3⟩ := mod_at h p
  rw [at_mem h2] at h3
  have : row[m] = rc row p := by simpa using h3
  rw [← this]; exact List.getElem_mem h2
theorem rwin_len (row : List Int) (p : Int) (w : Nat) : (rwin row p w).length = w := by unfold rwin; rw [List.length_map, List.length_range]
theorem rwin_in {row : List Int} {P : Int → Prop} (h : row ≠ []) (hP : ∀ c ∈ row, P c) (p : Int) (w : Nat) : ∀ c ∈ rwin row p w, P c := fun c hc => by
  unfold rwin at hc
  obtain ⟨j, -, rfl⟩ := List.mem_map.mp hc
  exact hP _ (rc_mem h _)
def F_round_cell : SF := (sRet (e2 fIx (eVar 0) (e2 (fD gMod) (eVar 1) (eCB (fD1 gLen) [(eVar 0)]))))
def f_round_cell : FN := callF 2 F_round_cell
theorem round_cell_ok {row : List Int} (h : row ≠ []) (p : Int) : f_round_cell [.list (row.map .int), .int p] = some (.ret true (.int (rc row p))) := by
  obtain ⟨m, h1, h2, h3⟩ := mod_at h p
  have h4 : (0 : Int) < row.length := by have := List.length_pos_iff.mpr h; omega
  simp only [f_round_cell, F_round_cell, ev_seq, kSeq_nx, kSeq_rt, kSeq_bk, kSeq_ct, kSeq_ex, ev_nil, ev_pass, ev_break, ev_cont, ev_retn, ev_fg, fgt_nil, fgt_cons, ev_gh, kGh_some, ev_gfrz, kFrz_some, ev_gown, kOwn_full, kOwn_own, kOwn_val, ev_setZ, kSetZ_val, kSetZ_own, kSetZ_full, kSetZ_ex, ev_set, kSet_val, kSet_own, kSet_full, kSet_ex, ev_ret, kRet_val, kRet_own, kRet_full, kRet_ex, ev_retO, kRetO_own, kRetO_val, kRetO_full, ev_expr, kExpr_ok, kExpr_ex, ev_if, kIf_true, kIf_false, ev_for, kFor_ok, ev_while, ev_turn, kTurn1_some, kTurn_nx, kTurn_ct, kTurn_bk, kTurn_rt, kTurn_ex, ev_wturn, kW_true, kW_false, ev_gN, ev_gT, kT_some, itemsT_val, gSets_nil, gSets_val, mkv_int, mkv_bool, mkv_str, mkv_none, mkv_list, mkv_tuple, ev_unp, kUnp_val, kUnp_full, kU_some, ev_aug, kAug_val, kA_some, ev_app, kApp_val, kApp_own, kApp_full, ev_put, kPut_val, callF_eq, entE_nil, unds_succ, unds_zero, entE_cons, entS_int, entS_bool, entS_str, entS_none, entS_list, entS_tuple, kF_nx, kF_rt, kF_ex, frOf_val, frOf_own, frOf_full, ev_var, kVar_val, kVar_own, kVar_full, ev_c, ev_e2, k2_ok, okO_some, ev_e1, k1_ok, frz_val, frz_own, frz_full, frz_bor, frz_brf, dat_val, dat_bor, dat_brf, ev_evs0, ev_evs, kC_ok, ev_cb, kCB_ok, ev_call, kCall_ok, ev_cres, kRs_some, kRes_int, kRes_bool, kRes_str, kRes_none, kRes_list, kRes_tuple, kRes_false, kRes_exc, dats_nil, dats_cons, kD_some, isVal_val, isVal_bor, isVal_brf, ev_isa, kIsa_val, kIsa_own, kIsa_bor, kIsa_full, kIsa_brf, ev_and, kAnd_val, kAnd2_true, kAnd2_false, kAnd2_val, ev_or, kOr_val, kOr2_true, kOr2_false, kOr2_val, ev_not, kNot_val, ev_ife, kIfE_true, kIfE_false, ev_bof, kB_val, ev_tof, kTo_val, kTo_own, kTo_bor, kTo_full, kTo_brf, okB_some, truth_bool, truth_int, truth_none, truth_list, truth_tuple, ev_bnot, kNotB_ok, ev_band, kAndB_ok, kAndB2_true, kAndB2_false, kAndB2_ok, ev_bor, kOrB_ok, kOrB2_true, kOrB2_false, kOrB2_ok, ev_chain, kCh_ok, kCh2_false, kCh2_true, ev_fD, kD2_some, kS_int, kS_bool, kS_str, kS_none, ev_sub, ev_addI, ev_iadd, ev_div, ev_mod, ev_pow, ev_mulI, ev_neg, ev_eqI, ev_neI, ev_ltI, ev_leI, ev_gtI, ev_geI, ev_fD1, kD1_some, ev_int, ev_intb, ev_abs, ev_lenL, ev_lenT, ev_fI2, ev_catVV, ev_repV, ev_list, kLst_ok, ev_tup, kTup_ok, kMk_some, kMkT_some, stors_nil, stors_cons, kSt_some, stor_val, ev_ixL, ev_ixT, ev_ixB, atI_cast, atI_0, atI_1, atI_2, atI_3, atI_4, atI_5, atI_6, atI_7, ev_slice, kSl_val, kSl_own, kSl_bor, kSl_full, ev_pN, ev_pS, kP_int, ev_rev, ev_ls, ev_lsT, ev_tl, all_scal, ev_sorted, kSo_some, ev_iL, kIL_val, kIL_own, kIL_full, ev_iR, kR_1, kR_2, map_mkv_int, mkI_eq, rngI_eq, mkN_eq, ev_iR3, kR3_ok, rngC_eq, mkC_eq, ev_iM, kM_ok, kM2_some, mkEn_val, mkTp_val, ev_iZp, kZp_ok, mkZp_val, ev_lc, kLc_ok, kLcM_some, wipeE_nil, wipeE_cons, ev_byes, kE_val, kE_own, kE_full, kEl_some, kTl_some, ev_appAt, kAppAt_tuple, kAppAt_list, kAA_ok, ev_andI, ev_orI, ev_shr, ev_shl, List.getElem?_cons_zero, List.getElem?_cons_succ, List.set_cons_zero, List.set_cons_succ, List.all_nil, List.all_cons, Bool.and_true, Bool.true_and, Bool.or_true, Bool.true_or, Bool.or_false, Bool.false_or, Bool.and_false, Bool.false_and, Bool.not_true, Bool.not_false, Option.map_some, List.length_nil, List.length_cons, List.length_map, List.nil_append, List.map_cons, List.map_nil, scal_int, scal_bool, scal_str, scal_none, scal_list, scal_tuple, cd_true, cd_false, not_true_eq_false, not_false_eq_true, Nat.zero_le, and_self, true_and, and_true, ne_eq, not_false_eq_true, reduceIte, Nat.reduceLT, Nat.reduceLeDiff, Nat.reduceAdd, Nat.reduceMul, Nat.reduceSub, Nat.reduceEqDiff, Int.reduceLT, Int.reduceLE, Int.reduceAdd, Int.reduceSub, Int.reduceMul, Int.reduceNeg, Int.reduceToNat, Int.reduceEq, Int.reduceAbs, Int.reducePow, h4, h1, h3]
def C_round_image_1 : EF := (eCall PF.f_round_cell [(eVar 1), (e2 fAdd (e2 fAdd (eVar 5) (eVar 3)) (eVar 6))])
def C_round_image_2 : EF := (eCall PF.f_new_cell [(eVar 0), (eLc (iR [(eVar 4)]) [6] (gN 6) bYes PF.C_round_image_1)])
def F_round_image : SF := (sSeq (sUnp [2, 3, 4, 2] (eVar 0))
  (sRet (eLc (iR [(eCB (fD1 gLen) [(eVar 1)])]) [5] (gN 5) bYes PF.C_round_image_2)))
def f_round_image : FN := callF 7 F_round_image
theorem round_image_ok {s w : Nat} {o : Int} {t row : List Int} (hs : 0 < s) (hs' : s < 18446744073709551616) (ht : t.length = s ^ w) (hne : row ≠ []) (hx : ∀ c ∈ row, 0 ≤ c ∧ c < (s : Int)) (hl : row.length < 16777216) (hw : w < 16777216) : f_round_image [mapD s o w t, .list (row.map .int)] = some (.ret true (.list ((roundL s o w t row).map .int))) := by
  have h6 : small62 (row.length : Int) = true := small62_ok (by omega) (by omega)
  have h7 : small62 (w : Int) = true := small62_ok (by omega) (by omega)
  have key := lcL_map (t := gN 5) (elt := C_round_image_2) (ρ := [.val false (mapD s o w t), .val false (.list (row.map .int)), .val false (.list (t.map .int)), .val true (.int o), .val true (.int w), .und, .und]) (mk := mkN 0) (r := fun (k : Nat) => .int (newC s t (rwin row ((k : Int) + o) w))) (List.range row.length) (fun k hk => by
    have in1 := lcL_map (t := gN 6) (elt := C_round_image_1) (ρ := [.val false (mapD s o w t), .val false (.list (row.map .int)), .val false (.list (t.map .int)), .val true (.int o), .val true (.int w), .val true (.int k), .und]) (mk := mkN 0) (r := fun (j : Nat) => .int (rc row ((k : Int) + o + (j : Int)))) (List.range w) (fun j hj => by
      simp only [C_round_image_1, ev_seq, kSeq_nx, kSeq_rt, kSeq_bk, kSeq_ct, kSeq_ex, ev_nil, ev_pass, ev_break, ev_cont, ev_retn, ev_fg, fgt_nil, fgt_cons, ev_gh, kGh_some, ev_gfrz, kFrz_some, ev_gown, kOwn_full, kOwn_own, kOwn_val, ev_setZ, kSetZ_val, kSetZ_own, kSetZ_full, kSetZ_ex, ev_set, kSet_val, kSet_own, kSet_full, kSet_ex, ev_ret, kRet_val, kRet_own, kRet_full, kRet_ex, ev_retO, kRetO_own, kRetO_val, kRetO_full, ev_expr, kExpr_ok, kExpr_ex, ev_if, kIf_true, kIf_false, ev_for, kFor_ok, ev_while, ev_turn, kTurn1_some, kTurn_nx, kTurn_ct, kTurn_bk, kTurn_rt, kTurn_ex, ev_wturn, kW_true, kW_false, ev_gN, ev_gT, kT_some, itemsT_val, gSets_nil, gSets_val, mkv_int, mkv_bool, mkv_str, mkv_none, mkv_list, mkv_tuple, ev_unp, kUnp_val, kUnp_full, kU_some, ev_aug, kAug_val, kA_some, ev_app, kApp_val, kApp_own, kApp_full, ev_put, kPut_val, callF_eq, entE_nil, unds_succ, unds_zero, entE_cons, entS_int, entS_bool, entS_str, entS_none, entS_list, entS_tuple, kF_nx, kF_rt, kF_ex, frOf_val, frOf_own, frOf_full, ev_var, kVar_val, kVar_own, kVar_full, ev_c, ev_e2, k2_ok, okO_some, ev_e1, k1_ok, frz_val, frz_own, frz_full, frz_bor, frz_brf, dat_val, dat_bor, dat_brf, ev_evs0, ev_evs, kC_ok, ev_cb, kCB_ok, ev_call, kCall_ok, ev_cres, kRs_some, kRes_int, kRes_bool, kRes_str, kRes_none, kRes_list, kRes_tuple, kRes_false, kRes_exc, dats_nil, dats_cons, kD_some, isVal_val, isVal_bor, isVal_brf, ev_isa, kIsa_val, kIsa_own, kIsa_bor, kIsa_full, kIsa_brf, ev_and, kAnd_val, kAnd2_true, kAnd2_false, kAnd2_val, ev_or, kOr_val, kOr2_true, kOr2_false, kOr2_val, ev_not, kNot_val, ev_ife, kIfE_true, kIfE_false, ev_bof, kB_val, ev_tof, kTo_val, kTo_own, kTo_bor, kTo_full, kTo_brf, okB_some, truth_bool, truth_int, truth_none, truth_list, truth_tuple, ev_bnot, kNotB_ok, ev_band, kAndB_ok, kAndB2_true, kAndB2_false, kAndB2_ok, ev_bor, kOrB_ok, kOrB2_true, kOrB2_false, kOrB2_ok, ev_chain, kCh_ok, kCh2_false, kCh2_true, ev_fD, kD2_some, kS_int, kS_bool, kS_str, kS_none, ev_sub, ev_addI, ev_iadd, ev_div, ev_mod, ev_pow, ev_mulI, ev_neg, ev_eqI, ev_neI, ev_ltI, ev_leI, ev_gtI, ev_geI, ev_fD1, kD1_some, ev_int, ev_intb, ev_abs, ev_lenL, ev_lenT, ev_fI2, ev_catVV, ev_repV, ev_list, kLst_ok, ev_tup, kTup_ok, kMk_some, kMkT_some, stors_nil, stors_cons, kSt_some, stor_val, ev_ixL, ev_ixT, ev_ixB, atI_cast, atI_0, atI_1, atI_2, atI_3, atI_4, atI_5, atI_6, atI_7, ev_slice, kSl_val, kSl_own, kSl_bor, kSl_full, ev_pN, ev_pS, kP_int, ev_rev, ev_ls, ev_lsT, ev_tl, all_scal, ev_sorted, kSo_some, ev_iL, kIL_val, kIL_own, kIL_full, ev_iR, kR_1, kR_2, map_mkv_int, mkI_eq, rngI_eq, mkN_eq, ev_iR3, kR3_ok, rngC_eq, mkC_eq, ev_iM, kM_ok, kM2_some, mkEn_val, mkTp_val, ev_iZp, kZp_ok, mkZp_val, ev_lc, kLc_ok, kLcM_some, wipeE_nil, wipeE_cons, ev_byes, kE_val, kE_own, kE_full, kEl_some, kTl_some, ev_appAt, kAppAt_tuple, kAppAt_list, kAA_ok, ev_andI, ev_orI, ev_shr, ev_shl, List.getElem?_cons_zero, List.getElem?_cons_succ, List.set_cons_zero, List.set_cons_succ, List.all_nil, List.all_cons, Bool.and_true, Bool.true_and, Bool.or_true, Bool.true_or, Bool.or_false, Bool.false_or, Bool.and_false, Bool.false_and, Bool.not_true, Bool.not_false, Option.map_some, List.length_nil, List.length_cons, List.length_map, List.nil_append, List.map_cons, List.map_nil, scal_int, scal_bool, scal_str, scal_none, scal_list, scal_tuple, cd_true, cd_false, not_true_eq_false, not_false_eq_true, Nat.zero_le, and_self, true_and, and_true, ne_eq, not_false_eq_true, reduceIte, Nat.reduceLT, Nat.reduceLeDiff, Nat.reduceAdd, Nat.reduceMul, Nat.reduceSub, Nat.reduceEqDiff, Int.reduceLT, Int.reduceLE, Int.reduceAdd, Int.reduceSub, Int.reduceMul, Int.reduceNeg, Int.reduceToNat, Int.reduceEq, Int.reduceAbs, Int.reducePow, mkN_eq, Int.zero_add, round_cell_ok hne])
    have e4 : ((List.range w).map fun (j : Nat) => PyData.int (rc row ((k : Int) + o + (j : Int)))) = (rwin row ((k : Int) + o) w).map .int := by
      unfold rwin; rw [List.map_map]; rfl
    rw [e4] at in1
    have n1 := new_cell_ok (o := o) hs hs' ht (rwin_len row ((k : Int) + o) w) (rwin_in hne hx ((k : Int) + o) w)
    have z2 : (rwin row ((k : Int) + o) w).length ≤ 16777216 := by rw [rwin_len]; omega
    simp only [C_round_image_2, ev_seq, kSeq_nx, kSeq_rt, kSeq_bk, kSeq_ct, kSeq_ex, ev_nil, ev_pass, ev_break, ev_cont, ev_retn, ev_fg, fgt_nil, fgt_cons, ev_gh, kGh_some, ev_gfrz, kFrz_some, ev_gown, kOwn_full, kOwn_own, kOwn_val, ev_setZ, kSetZ_val, kSetZ_own, kSetZ_full, kSetZ_ex, ev_set, kSet_val, kSet_own, kSet_full, kSet_ex, ev_ret, kRet_val, kRet_own, kRet_full, kRet_ex, ev_retO, kRetO_own, kRetO_val, kRetO_full, ev_expr, kExpr_ok, kExpr_ex, ev_if, kIf_true, kIf_false, ev_for, kFor_ok, ev_while, ev_turn, kTurn1_some, kTurn_nx, kTurn_ct, kTurn_bk, kTurn_rt, kTurn_ex, ev_wturn, kW_true, kW_false, ev_gN, ev_gT, kT_some, itemsT_val, gSets_nil, gSets_val, mkv_int, mkv_bool, mkv_str, mkv_none, mkv_list, mkv_tuple, ev_unp, kUnp_val, kUnp_full, kU_some, ev_aug, kAug_val, kA_some, ev_app, kApp_val, kApp_own, kApp_full, ev_put, kPut_val, callF_eq, entE_nil, unds_succ, unds_zero, entE_cons, entS_int, entS_bool, entS_str, entS_none, entS_list, entS_tuple, kF_nx, kF_rt, kF_ex, frOf_val, frOf_own, frOf_full, ev_var, kVar_val, kVar_own, kVar_full, ev_c, ev_e2, k2_ok, okO_some, ev_e1, k1_ok, frz_val, frz_own, frz_full, frz_bor, frz_brf, dat_val, dat_bor, dat_brf, ev_evs0, ev_evs, kC_ok, ev_cb, kCB_ok, ev_call, kCall_ok, ev_cres, kRs_some, kRes_int, kRes_bool, kRes_str, kRes_none, kRes_list, kRes_tuple, kRes_false, kRes_exc, dats_nil, dats_cons, kD_some, isVal_val, isVal_bor, isVal_brf, ev_isa, kIsa_val, kIsa_own, kIsa_bor, kIsa_full, kIsa_brf, ev_and, kAnd_val, kAnd2_true, kAnd2_false, kAnd2_val, ev_or, kOr_val, kOr2_true, kOr2_false, kOr2_val, ev_not, kNot_val, ev_ife, kIfE_true, kIfE_false, ev_bof, kB_val, ev_tof, kTo_val, kTo_own, kTo_bor, kTo_full, kTo_brf, okB_some, truth_bool, truth_int, truth_none, truth_list, truth_tuple, ev_bnot, kNotB_ok, ev_band, kAndB_ok, kAndB2_true, kAndB2_false, kAndB2_ok, ev_bor, kOrB_ok, kOrB2_true, kOrB2_false, kOrB2_ok, ev_chain, kCh_ok, kCh2_false, kCh2_true, ev_fD, kD2_some, kS_int, kS_bool, kS_str, kS_none, ev_sub, ev_addI, ev_iadd, ev_div, ev_mod, ev_pow, ev_mulI, ev_neg, ev_eqI, ev_neI, ev_ltI, ev_leI, ev_gtI, ev_geI, ev_fD1, kD1_some, ev_int, ev_intb, ev_abs, ev_lenL, ev_lenT, ev_fI2, ev_catVV, ev_repV, ev_list, kLst_ok, ev_tup, kTup_ok, kMk_some, kMkT_some, stors_nil, stors_cons, kSt_some, stor_val, ev_ixL, ev_ixT, ev_ixB, atI_cast, atI_0, atI_1, atI_2, atI_3, atI_4, atI_5, atI_6, atI_7, ev_slice, kSl_val, kSl_own, kSl_bor, kSl_full, ev_pN, ev_pS, kP_int, ev_rev, ev_ls, ev_lsT, ev_tl, all_scal, ev_sorted, kSo_some, ev_iL, kIL_val, kIL_own, kIL_full, ev_iR, kR_1, kR_2, map_mkv_int, mkI_eq, rngI_eq, mkN_eq, ev_iR3, kR3_ok, rngC_eq, mkC_eq, ev_iM, kM_ok, kM2_some, mkEn_val, mkTp_val, ev_iZp, kZp_ok, mkZp_val, ev_lc, kLc_ok, kLcM_some, wipeE_nil, wipeE_cons, ev_byes, kE_val, kE_own, kE_full, kEl_some, kTl_some, ev_appAt, kAppAt_tuple, kAppAt_list, kAA_ok, ev_andI, ev_orI, ev_shr, ev_shl, List.getElem?_cons_zero, List.getElem?_cons_succ, List.set_cons_zero, List.set_cons_succ, List.all_nil, List.all_cons, Bool.and_true, Bool.true_and, Bool.or_true, Bool.true_or, Bool.or_false, Bool.false_or, Bool.and_false, Bool.false_and, Bool.not_true, Bool.not_false, Option.map_some, List.length_nil, List.length_cons, List.length_map, List.nil_append, List.map_cons, List.map_nil, scal_int, scal_bool, scal_str, scal_none, scal_list, scal_tuple, cd_true, cd_false, not_true_eq_false, not_false_eq_true, Nat.zero_le, and_self, true_and, and_true, ne_eq, not_false_eq_true, reduceIte, Nat.reduceLT, Nat.reduceLeDiff, Nat.reduceAdd, Nat.reduceMul, Nat.reduceSub, Nat.reduceEqDiff, Int.reduceLT, Int.reduceLE, Int.reduceAdd, Int.reduceSub, Int.reduceMul, Int.reduceNeg, Int.reduceToNat, Int.reduceEq, Int.reduceAbs, Int.reducePow, mkN_eq, Int.zero_add, h7, rngI_eq, Int.sub_zero, Int.toNat_natCast, in1, z2, n1])
  have e3 : ((List.range row.length).map fun (k : Nat) => PyData.int (newC s t (rwin row ((k : Int) + o) w))) = (roundL s o w t row).map .int := by
    unfold roundL
    rw [List.map_map]; rfl
  rw [e3] at key
  have z : (roundL s o w t row).length ≤ 16777216 := by
    unfold roundL
    rw [List.length_map, List.length_range]; omega
  simp only [f_round_image, F_round_image, ev_seq, kSeq_nx, kSeq_rt, kSeq_bk, kSeq_ct, kSeq_ex, ev_nil, ev_pass, ev_break, ev_cont, ev_retn, ev_fg, fgt_nil, fgt_cons, ev_gh, kGh_some, ev_gfrz, kFrz_some, ev_gown, kOwn_full, kOwn_own, kOwn_val, ev_setZ, kSetZ_val, kSetZ_own, kSetZ_full, kSetZ_ex, ev_set, kSet_val, kSet_own, kSet_full, kSet_ex, ev_ret, kRet_val, kRet_own, kRet_full, kRet_ex, ev_retO, kRetO_own, kRetO_val, kRetO_full, ev_expr, kExpr_ok, kExpr_ex, ev_if, kIf_true, kIf_false, ev_for, kFor_ok, ev_while, ev_turn, kTurn1_some, kTurn_nx, kTurn_ct, kTurn_bk, kTurn_rt, kTurn_ex, ev_wturn, kW_true, kW_false, ev_gN, ev_gT, kT_some, itemsT_val, gSets_nil, gSets_val, mkv_int, mkv_bool, mkv_str, mkv_none, mkv_list, mkv_tuple, ev_unp, kUnp_val, kUnp_full, kU_some, ev_aug, kAug_val, kA_some, ev_app, kApp_val, kApp_own, kApp_full, ev_put, kPut_val, callF_eq, entE_nil, unds_succ, unds_zero, entE_cons, entS_int, entS_bool, entS_str, entS_none, entS_list, entS_tuple, kF_nx, kF_rt, kF_ex, frOf_val, frOf_own, frOf_full, ev_var, kVar_val, kVar_own, kVar_full, ev_c, ev_e2, k2_ok, okO_some, ev_e1, k1_ok, frz_val, frz_own, frz_full, frz_bor, frz_brf, dat_val, dat_bor, dat_brf, ev_evs0, ev_evs, kC_ok, ev_cb, kCB_ok, ev_call, kCall_ok, ev_cres, kRs_some, kRes_int, kRes_bool, kRes_str, kRes_none, kRes_list, kRes_tuple, kRes_false, kRes_exc, dats_nil, dats_cons, kD_some, isVal_val, isVal_bor, isVal_brf, ev_isa, kIsa_val, kIsa_own, kIsa_bor, kIsa_full, kIsa_brf, ev_and, kAnd_val, kAnd2_true, kAnd2_false, kAnd2_val, ev_or, kOr_val, kOr2_true, kOr2_false, kOr2_val, ev_not, kNot_val, ev_ife, kIfE_true, kIfE_false, ev_bof, kB_val, ev_tof, kTo_val, kTo_own, kTo_bor, kTo_full, kTo_brf, okB_some, truth_bool, truth_int, truth_none, truth_list, truth_tuple, ev_bnot, kNotB_ok, ev_band, kAndB_ok, kAndB2_true, kAndB2_false, kAndB2_ok, ev_bor, kOrB_ok, kOrB2_true, kOrB2_false, kOrB2_ok, ev_chain, kCh_ok, kCh2_false, kCh2_true, ev_fD, kD2_some, kS_int, kS_bool, kS_str, kS_none, ev_sub, ev_addI, ev_iadd, ev_div, ev_mod, ev_pow, ev_mulI, ev_neg, ev_eqI, ev_neI, ev_ltI, ev_leI, ev_gtI, ev_geI, ev_fD1, kD1_some, ev_int, ev_intb, ev_abs, ev_lenL, ev_lenT, ev_fI2, ev_catVV, ev_repV, ev_list, kLst_ok, ev_tup, kTup_ok, kMk_some, kMkT_some, stors_nil, stors_cons, kSt_some, stor_val, ev_ixL, ev_ixT, ev_ixB, atI_cast, atI_0, atI_1, atI_2, atI_3, atI_4, atI_5, atI_6, atI_7, ev_slice, kSl_val, kSl_own, kSl_bor, kSl_full, ev_pN, ev_pS, kP_int, ev_rev, ev_ls, ev_lsT, ev_tl, all_scal, ev_sorted, kSo_some, ev_iL, kIL_val, kIL_own, kIL_full, ev_iR, kR_1, kR_2, map_mkv_int, mkI_eq, rngI_eq, mkN_eq, ev_iR3, kR3_ok, rngC_eq, mkC_eq, ev_iM, kM_ok, kM2_some, mkEn_val, mkTp_val, ev_iZp, kZp_ok, mkZp_val, ev_lc, kLc_ok, kLcM_some, wipeE_nil, wipeE_cons, ev_byes, kE_val, kE_own, kE_full, kEl_some, kTl_some, ev_appAt, kAppAt_tuple, kAppAt_list, kAA_ok, ev_andI, ev_orI, ev_shr, ev_shl, List.getElem?_cons_zero, List.getElem?_cons_succ, List.set_cons_zero, List.set_cons_succ, List.all_nil, List.all_cons, Bool.and_true, Bool.true_and, Bool.or_true, Bool.true_or, Bool.or_false, Bool.false_or, Bool.and_false, Bool.false_and, Bool.not_true, Bool.not_false, Option.map_some, List.length_nil, List.length_cons, List.length_map, List.nil_append, List.map_cons, List.map_nil, scal_int, scal_bool, scal_str, scal_none, scal_list, scal_tuple, cd_true, cd_false, not_true_eq_false, not_false_eq_true, Nat.zero_le, and_self, true_and, and_true, ne_eq, not_false_eq_true, reduceIte, Nat.reduceLT, Nat.reduceLeDiff, Nat.reduceAdd, Nat.reduceMul, Nat.reduceSub, Nat.reduceEqDiff, Int.reduceLT, Int.reduceLE, Int.reduceAdd, Int.reduceSub, Int.reduceMul, Int.reduceNeg, Int.reduceToNat, Int.reduceEq, Int.reduceAbs, Int.reducePow, h6, rngI_eq, Int.sub_zero, Int.toNat_natCast, key, z]
def C__law_round_image_1 : EF := (e2 fIx (eVar 1) (e2 (fD gMod) (eCB (fD1 gInt) [(e2 fAdd (e2 fAdd (eVar 7) (eVar 3)) (eVar 8))]) (eVar 6)))
def C__law_round_image_2 : EF := (e2 fIx (eVar 5) (eCall PF.f__law_index [(eLc (iR [(eVar 4)]) [8] (gN 8) bYes PF.C__law_round_image_1), (eVar 2)]))
def F__law_round_image : SF := (sSeq (sUnp [2, 3, 4, 5] (eVar 0))
  (sSeq (sSetZ 6 (eCB (fD1 gLen) [(eVar 1)]))
  (sRet (eLc (iR [(eVar 6)]) [7] (gN 7) bYes PF.C__law_round_image_2))))
def f__law_round_image : FN := callF 9 F__law_round_image
theorem law_round_image_ok {s w : Nat} {o : Int} {t row : List Int} (hs : 0 < s) (hs' : s < 18446744073709551616) (ht : t.length = s ^ w) (hne : row ≠ []) (hx : ∀ c ∈ row, 0 ≤ c ∧ c < (s : Int)) (hl : row.length < 16777216) (hw : w < 16777216) : f__law_round_image [mapD s o w t, .list (row.map .int)] = some (.ret true (.list ((roundL s o w t row).map .int))) := by
  have h6 : small62 (row.length : Int) = true := small62_ok (by omega) (by omega)
  have h7 : small62 (w : Int) = true := small62_ok (by omega) (by omega)
  have h8 : (0 : Int) < row.length := by have := List.length_pos_iff.mpr hne; omega
  have key := lcL_map (t := gN 7) (elt := C__law_round_image_2) (ρ := [.val false (mapD s o w t), .val false (.list (row.map .int)), .val true (.int s), .val true (.int o), .val true (.int w), .val false (.list (t.map .int)), .val true (.int row.length), .und, .und]) (mk := mkN 0) (r := fun (k : Nat) => .int (newC s t (rwin row ((k : Int) + o) w))) (List.range row.length) (fun k hk => by
    have in1 := lcL_map (t := gN 8) (elt := C__law_round_image_1) (ρ := [.val false (mapD s o w t), .val false (.list (row.map .int)), .val true (.int s), .val true (.int o), .val true (.int w), .val false (.list (t.map .int)), .val true (.int row.length), .val true (.int k), .und]) (mk := mkN 0) (r := fun (j : Nat) => .int (rc row ((k : Int) + o + (j : Int)))) (List.range w) (fun j hj => by
      obtain ⟨m, h1, h2, h3⟩ := mod_at hne ((k : Int) + o + (j : Int))
      simp only [C__law_round_image_1, ev_seq, kSeq_nx, kSeq_rt, kSeq_bk, kSeq_ct, kSeq_ex, ev_nil, ev_pass, ev_break, ev_cont, ev_retn, ev_fg, fgt_nil, fgt_cons, ev_gh, kGh_some, ev_gfrz, kFrz_some, ev_gown, kOwn_full, kOwn_own, kOwn_val, ev_setZ, kSetZ_val, kSetZ_own, kSetZ_full, kSetZ_ex, ev_set, kSet_val, kSet_own, kSet_full, kSet_ex, ev_ret, kRet_val, kRet_own, kRet_full, kRet_ex, ev_retO, kRetO_own, kRetO_val, kRetO_full, ev_expr, kExpr_ok, kExpr_ex, ev_if, kIf_true, kIf_false, ev_for, kFor_ok, ev_while, ev_turn, kTurn1_some, kTurn_nx, kTurn_ct, kTurn_bk, kTurn_rt, kTurn_ex, ev_wturn, kW_true, kW_false, ev_gN, ev_gT, kT_some, itemsT_val, gSets_nil, gSets_val, mkv_int, mkv_bool, mkv_str, mkv_none, mkv_list, mkv_tuple, ev_unp, kUnp_val, kUnp_full, kU_some, ev_aug, kAug_val, kA_some, ev_app, kApp_val, kApp_own, kApp_full, ev_put, kPut_val, callF_eq, entE_nil, unds_succ, unds_zero, entE_cons, entS_int, entS_bool, entS_str, entS_none, entS_list, entS_tuple, kF_nx, kF_rt, kF_ex, frOf_val, frOf_own, frOf_full, ev_var, kVar_val, kVar_own, kVar_full, ev_c, ev_e2, k2_ok, okO_some, ev_e1, k1_ok, frz_val, frz_own, frz_full, frz_bor, frz_brf, dat_val, dat_bor, dat_brf, ev_evs0, ev_evs, kC_ok, ev_cb, kCB_ok, ev_call, kCall_ok, ev_cres, kRs_some, kRes_int, kRes_bool, kRes_str, kRes_none, kRes_list, kRes_tuple, kRes_false, kRes_exc, dats_nil, dats_cons, kD_some, isVal_val, isVal_bor, isVal_brf, ev_isa, kIsa_val, kIsa_own, kIsa_bor, kIsa_full, kIsa_brf, ev_and, kAnd_val, kAnd2_true, kAnd2_false, kAnd2_val, ev_or, kOr_val, kOr2_true, kOr2_false, kOr2_val, ev_not, kNot_val, ev_ife, kIfE_true, kIfE_false, ev_bof, kB_val, ev_tof, kTo_val, kTo_own, kTo_bor, kTo_full, kTo_brf, okB_some, truth_bool, truth_int, truth_none, truth_list, truth_tuple, ev_bnot, kNotB_ok, ev_band, kAndB_ok, kAndB2_true, kAndB2_false, kAndB2_ok, ev_bor, kOrB_ok, kOrB2_true, kOrB2_false, kOrB2_ok, ev_chain, kCh_ok, kCh2_false, kCh2_true, ev_fD, kD2_some, kS_int, kS_bool, kS_str, kS_none, ev_sub, ev_addI, ev_iadd, ev_div, ev_mod, ev_pow, ev_mulI, ev_neg, ev_eqI, ev_neI, ev_ltI, ev_leI, ev_gtI, ev_geI, ev_fD1, kD1_some, ev_int, ev_intb, ev_abs, ev_lenL, ev_lenT, ev_fI2, ev_catVV, ev_repV, ev_list, kLst_ok, ev_tup, kTup_ok, kMk_some, kMkT_some, stors_nil, stors_cons, kSt_some, stor_val, ev_ixL, ev_ixT, ev_ixB, atI_cast, atI_0, atI_1, atI_2, atI_3, atI_4, atI_5, atI_6, atI_7, ev_slice, kSl_val, kSl_own, kSl_bor, kSl_full, ev_pN, ev_pS, kP_int, ev_rev, ev_ls, ev_lsT, ev_tl, all_scal, ev_sorted, kSo_some, ev_iL, kIL_val, kIL_own, kIL_full, ev_iR, kR_1, kR_2, map_mkv_int, mkI_eq, rngI_eq, mkN_eq, ev_iR3, kR3_ok, rngC_eq, mkC_eq, ev_iM, kM_ok, kM2_some, mkEn_val, mkTp_val, ev_iZp, kZp_ok, mkZp_val, ev_lc, kLc_ok, kLcM_some, wipeE_nil, wipeE_cons, ev_byes, kE_val, kE_own, kE_full, kEl_some, kTl_some, ev_appAt, kAppAt_tuple, kAppAt_list, kAA_ok, ev_andI, ev_orI, ev_shr, ev_shl, List.getElem?_cons_zero, List.getElem?_cons_succ, List.set_cons_zero, List.set_cons_succ, List.all_nil, List.all_cons, Bool.and_true, Bool.true_and, Bool.or_true, Bool.true_or, Bool.or_false, Bool.false_or, Bool.and_false, Bool.false_and, Bool.not_true, Bool.not_false, Option.map_some, List.length_nil, List.length_cons, List.length_map, List.nil_append, List.map_cons, List.map_nil, scal_int, scal_bool, scal_str, scal_none, scal_list, scal_tuple, cd_true, cd_false, not_true_eq_false, not_false_eq_true, Nat.zero_le, and_self, true_and, and_true, ne_eq, not_false_eq_true, reduceIte, Nat.reduceLT, Nat.reduceLeDiff, Nat.reduceAdd, Nat.reduceMul, Nat.reduceSub, Nat.reduceEqDiff, Int.reduceLT, Int.reduceLE, Int.reduceAdd, Int.reduceSub, Int.reduceMul, Int.reduceNeg, Int.reduceToNat, Int.reduceEq, Int.reduceAbs, Int.reducePow, mkN_eq, Int.zero_add, h8, h1, h3])
    have e4 : ((List.range w).map fun (j : Nat) => PyData.int (rc row ((k : Int) + o + (j : Int)))) = (rwin row ((k : Int) + o) w).map .int := by
      unfold rwin; rw [List.map_map]; rfl
    rw [e4] at in1
    obtain ⟨m, m1, m2⟩ := win_at hs ht (rwin_len row ((k : Int) + o) w) (rwin_in hne hx ((k : Int) + o) w)
    have n1 := index_ok (rwin row ((k : Int) + o) w) s hs'
    rw [m1] at n1
    have z2 : (rwin row ((k : Int) + o) w).length ≤ 16777216 := by rw [rwin_len]; omega
    simp only [C__law_round_image_2, ev_seq, kSeq_nx, kSeq_rt, kSeq_bk, kSeq_ct, kSeq_ex, ev_nil, ev_pass, ev_break, ev_cont, ev_retn, ev_fg, fgt_nil, fgt_cons, ev_gh, kGh_some, ev_gfrz, kFrz_some, ev_gown, kOwn_full, kOwn_own, kOwn_val, ev_setZ, kSetZ_val, kSetZ_own, kSetZ_full, kSetZ_ex, ev_set, kSet_val, kSet_own, kSet_full, kSet_ex, ev_ret, kRet_val, kRet_own, kRet_full, kRet_ex, ev_retO, kRetO_own, kRetO_val, kRetO_full, ev_expr, kExpr_ok, kExpr_ex, ev_if, kIf_true, kIf_false, ev_for, kFor_ok, ev_while, ev_turn, kTurn1_some, kTurn_nx, kTurn_ct, kTurn_bk, kTurn_rt, kTurn_ex, ev_wturn, kW_true, kW_false, ev_gN, ev_gT, kT_some, itemsT_val, gSets_nil, gSets_val, mkv_int, mkv_bool, mkv_str, mkv_none, mkv_list, mkv_tuple, ev_unp, kUnp_val, kUnp_full, kU_some, ev_aug, kAug_val, kA_some, ev_app, kApp_val, kApp_own, kApp_full, ev_put, kPut_val, callF_eq, entE_nil, unds_succ, unds_zero, entE_cons, entS_int, entS_bool, entS_str, entS_none, entS_list, entS_tuple, kF_nx, kF_rt, kF_ex, frOf_val, frOf_own, frOf_full, ev_var, kVar_val, kVar_own, kVar_full, ev_c, ev_e2, k2_ok, okO_some, ev_e1, k1_ok, frz_val, frz_own, frz_full, frz_bor, frz_brf, dat_val, dat_bor, dat_brf, ev_evs0, ev_evs, kC_ok, ev_cb, kCB_ok, ev_call, kCall_ok, ev_cres, kRs_some, kRes_int, kRes_bool, kRes_str, kRes_none, kRes_list, kRes_tuple, kRes_false, kRes_exc, dats_nil, dats_cons, kD_some, isVal_val, isVal_bor, isVal_brf, ev_isa, kIsa_val, kIsa_own, kIsa_bor, kIsa_full, kIsa_brf, ev_and, kAnd_val, kAnd2_true, kAnd2_false, kAnd2_val, ev_or, kOr_val, kOr2_true, kOr2_false, kOr2_val, ev_not, kNot_val, ev_ife, kIfE_true, kIfE_false, ev_bof, kB_val, ev_tof, kTo_val, kTo_own, kTo_bor, kTo_full, kTo_brf, okB_some, truth_bool, truth_int, truth_none, truth_list, truth_tuple, ev_bnot, kNotB_ok, ev_band, kAndB_ok, kAndB2_true, kAndB2_false, kAndB2_ok, ev_bor, kOrB_ok, kOrB2_true, kOrB2_false, kOrB2_ok, ev_chain, kCh_ok, kCh2_false, kCh2_true, ev_fD, kD2_some, kS_int, kS_bool, kS_str, kS_none, ev_sub, ev_addI, ev_iadd, ev_div, ev_mod, ev_pow, ev_mulI, ev_neg, ev_eqI, ev_neI, ev_ltI, ev_leI, ev_gtI, ev_geI, ev_fD1, kD1_some, ev_int, ev_intb, ev_abs, ev_lenL, ev_lenT, ev_fI2, ev_catVV, ev_repV, ev_list, kLst_ok, ev_tup, kTup_ok, kMk_some, kMkT_some, stors_nil, stors_cons, kSt_some, stor_val, ev_ixL, ev_ixT, ev_ixB, atI_cast, atI_0, atI_1, atI_2, atI_3, atI_4, atI_5, atI_6, atI_7, ev_slice, kSl_val, kSl_own, kSl_bor, kSl_full, ev_pN, ev_pS, kP_int, ev_rev, ev_ls, ev_lsT, ev_tl, all_scal, ev_sorted, kSo_some, ev_iL, kIL_val, kIL_own, kIL_full, ev_iR, kR_1, kR_2, map_mkv_int, mkI_eq, rngI_eq, mkN_eq, ev_iR3, kR3_ok, rngC_eq, mkC_eq, ev_iM, kM_ok, kM2_some, mkEn_val, mkTp_val, ev_iZp, kZp_ok, mkZp_val, ev_lc, kLc_ok, kLcM_some, wipeE_nil, wipeE_cons, ev_byes, kE_val, kE_own, kE_full, kEl_some, kTl_some, ev_appAt, kAppAt_tuple, kAppAt_list, kAA_ok, ev_andI, ev_orI, ev_shr, ev_shl, List.getElem?_cons_zero, List.getElem?_cons_succ, List.set_cons_zero, List.set_cons_succ, List.all_nil, List.all_cons, Bool.and_true, Bool.true_and, Bool.or_true, Bool.true_or, Bool.or_false, Bool.false_or, Bool.and_false, Bool.false_and, Bool.not_true, Bool.not_false, Option.map_some, List.length_nil, List.length_cons, List.length_map, List.nil_append, List.map_cons, List.map_nil, scal_int, scal_bool, scal_str, scal_none, scal_list, scal_tuple, cd_true, cd_false, not_true_eq_false, not_false_eq_true, Nat.zero_le, and_self, true_and, and_true, ne_eq, not_false_eq_true, reduceIte, Nat.reduceLT, Nat.reduceLeDiff, Nat.reduceAdd, Nat.reduceMul, Nat.reduceSub, Nat.reduceEqDiff, Int.reduceLT, Int.reduceLE, Int.reduceAdd, Int.reduceSub, Int.reduceMul, Int.reduceNeg, Int.reduceToNat, Int.reduceEq, Int.reduceAbs, Int.reducePow, mkN_eq, Int.zero_add, h7, rngI_eq, Int.sub_zero, Int.toNat_natCast, in1, z2, n1, m2])
  have e3 : ((List.range row.length).map fun (k : Nat) => PyData.int (newC s t (rwin row ((k : Int) + o) w))) = (roundL s o w t row).map .int := by
    unfold roundL
    rw [List.map_map]; rfl
  rw [e3] at key
  have z : (roundL s o w t row).length ≤ 16777216 := by
    unfold roundL
    rw [List.length_map, List.length_range]; omega
  simp only [f__law_round_image, F__law_round_image, ev_seq, kSeq_nx, kSeq_rt, kSeq_bk, kSeq_ct, kSeq_ex, ev_nil, ev_pass, ev_break, ev_cont, ev_retn, ev_fg, fgt_nil, fgt_cons, ev_gh, kGh_some, ev_gfrz, kFrz_some, ev_gown, kOwn_full, kOwn_own, kOwn_val, ev_setZ, kSetZ_val, kSetZ_own, kSetZ_full, kSetZ_ex, ev_set, kSet_val, kSet_own, kSet_full, kSet_ex, ev_ret, kRet_val, kRet_own, kRet_full, kRet_ex, ev_retO, kRetO_own, kRetO_val, kRetO_full, ev_expr, kExpr_ok, kExpr_ex, ev_if, kIf_true, kIf_false, ev_for, kFor_ok, ev_while, ev_turn, kTurn1_some, kTurn_nx, kTurn_ct, kTurn_bk, kTurn_rt, kTurn_ex, ev_wturn, kW_true, kW_false, ev_gN, ev_gT, kT_some, itemsT_val, gSets_nil, gSets_val, mkv_int, mkv_bool, mkv_str, mkv_none, mkv_list, mkv_tuple, ev_unp, kUnp_val, kUnp_full, kU_some, ev_aug, kAug_val, kA_some, ev_app, kApp_val, kApp_own, kApp_full, ev_put, kPut_val, callF_eq, entE_nil, unds_succ, unds_zero, entE_cons, entS_int, entS_bool, entS_str, entS_none, entS_list, entS_tuple, kF_nx, kF_rt, kF_ex, frOf_val, frOf_own, frOf_full, ev_var, kVar_val, kVar_own, kVar_full, ev_c, ev_e2, k2_ok, okO_some, ev_e1, k1_ok, frz_val, frz_own, frz_full, frz_bor, frz_brf, dat_val, dat_bor, dat_brf, ev_evs0, ev_evs, kC_ok, ev_cb, kCB_ok, ev_call, kCall_ok, ev_cres, kRs_some, kRes_int, kRes_bool, kRes_str, kRes_none, kRes_list, kRes_tuple, kRes_false, kRes_exc, dats_nil, dats_cons, kD_some, isVal_val, isVal_bor, isVal_brf, ev_isa, kIsa_val, kIsa_own, kIsa_bor, kIsa_full, kIsa_brf, ev_and, kAnd_val, kAnd2_true, kAnd2_false, kAnd2_val, ev_or, kOr_val, kOr2_true, kOr2_false, kOr2_val, ev_not, kNot_val, ev_ife, kIfE_true, kIfE_false, ev_bof, kB_val, ev_tof, kTo_val, kTo_own, kTo_bor, kTo_full, kTo_brf, okB_some, truth_bool, truth_int, truth_none, truth_list, truth_tuple, ev_bnot, kNotB_ok, ev_band, kAndB_ok, kAndB2_true, kAndB2_false, kAndB2_ok, ev_bor, kOrB_ok, kOrB2_true, kOrB2_false, kOrB2_ok, ev_chain, kCh_ok, kCh2_false, kCh2_true, ev_fD, kD2_some, kS_int, kS_bool, kS_str, kS_none, ev_sub, ev_addI, ev_iadd, ev_div, ev_mod, ev_pow, ev_mulI, ev_neg, ev_eqI, ev_neI, ev_ltI, ev_leI, ev_gtI, ev_geI, ev_fD1, kD1_some, ev_int, ev_intb, ev_abs, ev_lenL, ev_lenT, ev_fI2, ev_catVV, ev_repV, ev_list, kLst_ok, ev_tup, kTup_ok, kMk_some, kMkT_some, stors_nil, stors_cons, kSt_some, stor_val, ev_ixL, ev_ixT, ev_ixB, atI_cast, atI_0, atI_1, atI_2, atI_3, atI_4, atI_5, atI_6, atI_7, ev_slice, kSl_val, kSl_own, kSl_bor, kSl_full, ev_pN, ev_pS, kP_int, ev_rev, ev_ls, ev_lsT, ev_tl, all_scal, ev_sorted, kSo_some, ev_iL, kIL_val, kIL_own, kIL_full, ev_iR, kR_1, kR_2, map_mkv_int, mkI_eq, rngI_eq, mkN_eq, ev_iR3, kR3_ok, rngC_eq, mkC_eq, ev_iM, kM_ok, kM2_some, mkEn_val, mkTp_val, ev_iZp, kZp_ok, mkZp_val, ev_lc, kLc_ok, kLcM_some, wipeE_nil, wipeE_cons, ev_byes, kE_val, kE_own, kE_full, kEl_some, kTl_some, ev_appAt, kAppAt_tuple, kAppAt_list, kAA_ok, ev_andI, ev_orI, ev_shr, ev_shl, List.getElem?_cons_zero, List.getElem?_cons_succ, List.set_cons_zero, List.set_cons_succ, List.all_nil, List.all_cons, Bool.and_true, Bool.true_and, Bool.or_true, Bool.true_or, Bool.or_false, Bool.false_or, Bool.and_false, Bool.false_and, Bool.not_true, Bool.not_false, Option.map_some, List.length_nil, List.length_cons, List.length_map, List.nil_append, List.map_cons, List.map_nil, scal_int, scal_bool, scal_str, scal_none, scal_list, scal_tuple, cd_true, cd_false, not_true_eq_false, not_false_eq_true, Nat.zero_le, and_self, true_and, and_true, ne_eq, not_false_eq_true, reduceIte, Nat.reduceLT, Nat.reduceLeDiff, Nat.reduceAdd, Nat.reduceMul, Nat.reduceSub, Nat.reduceEqDiff, Int.reduceLT, Int.reduceLE, Int.reduceAdd, Int.reduceSub, Int.reduceMul, Int.reduceNeg, Int.reduceToNat, Int.reduceEq, Int.reduceAbs, Int.reducePow, h6, rngI_eq, Int.sub_zero, Int.toNat_natCast, key, z]
/-! periods -/
def rep (m : Nat) (row : List Int) : List Int := (List.replicate m row).flatten
theorem rep_succ (m : Nat) (row : List Int) : rep (m + 1) row = row ++ rep m row := rfl
theorem rep_len (m : Nat) (row : List Int) : (rep m row).length = m * row.length := by
  induction m with
  | zero => simp [rep]
  | succ m ih => rw [rep_succ, List.length_append, ih, Nat.succ_mul]; omega
theorem rep_map (m : Nat) (row : List Int) : (List.replicate m (row.map PyData.int)).flatten = (rep m row).map .int := by
  induction m with
  | zero => rfl
  | succ m ih => rw [rep_succ, List.replicate_succ, List.flatten_cons, ih, List.map_append]
theorem rep_get (row : List Int) (h : row ≠ []) : ∀ (m i : Nat), i < m * row.length → (rep m row)[i]? = row[i % row.length]?
  | 0, i, hi => by omega
  | m + 1, i, hi => by
    have h0 : 0 < row.length := List.length_pos_iff.mpr h
    rw [rep_succ]
    by_cases hl : i < row.length
    · rw [List.getElem?_append_left hl, Nat.mod_eq_of_lt hl]
    · rw [List.getElem?_append_right (by omega), rep_get row h m (i - row.length) (by rw [Nat.succ_mul] at hi; omega)]
      congr 1
      conv => rhs; rw [show i = (i - row.length) + row.length by omega, Nat.add_mod_right]
theorem rc_eq {row : List Int} (h : row ≠ []) (p : Int) : row[(p % (row.length : Int)).toNat]? = some (rc row p) := by
  obtain ⟨m, h1, h2, h3⟩ := mod_at h p
  rw [h1, Int.toNat_natCast, List.getElem?_eq_getElem h2]
  rw [at_mem h2] at h3
  simpa using h3
theorem rep_ne {m : Nat} {row : List Int} (hm : 0 < m) (h : row ≠ []) : rep m row ≠ [] := fun e => by
  have := congrArg List.length e
  rw [rep_len] at this
  have h0 : 0 < row.length := List.length_pos_iff.mpr h
  have := Nat.mul_pos hm h0
  simp at *
  omega
theorem rc_rep {m : Nat} {row : List Int} (hm : 0 < m) (h : row ≠ []) (p : Int) : rc (rep m row) p = rc row p := by
  have h0 : 0 < row.length := List.length_pos_iff.mpr h
  have hne := rep_ne hm h
  have e1 := rc_eq hne p
  have e2 := rc_eq h p
  have hpos : 0 < (rep m row).length := List.length_pos_iff.mpr hne
  have n0 := Int.emod_nonneg p (show ((rep m row).length : Int) ≠ 0 by omega)
  have n1 := Int.emod_lt_of_pos p (show (0 : Int) < ((rep m row).length : Nat) by omega)
  obtain ⟨i, hi⟩ := Int.eq_ofNat_of_zero_le n0
  rw [hi, Int.toNat_natCast, rep_get row h m i (by rw [← rep_len]; omega)] at e1
  have e3 : (p % (row.length : Int)).toNat = i % row.length := by
    have d : p % (row.length : Int) = (i : Int) % (row.length : Int) := by
      rw [← hi, rep_len, Int.natCast_mul, Int.emod_emod_of_dvd _ (Int.dvd_mul_left _ _)]
    rw [d]
    omega
  rw [e3, e1] at e2
  exact Option.some.inj e2
theorem rc_ext {a b : List Int} (h : a.length = b.length) (hf : ∀ p, rc a p = rc b p) : a = b := by
  rcases List.eq_nil_or_concat a with e | ⟨_, _, e⟩
  · subst e
    exact (List.length_eq_zero_iff.mp h.symm).symm
  · have ha : a ≠ [] := by rw [e]; simp
    have hb : b ≠ [] := fun z => by rw [z] at h; exact ha (List.length_eq_zero_iff.mp h)
    apply List.ext_getElem?
    intro i
    by_cases hi : i < a.length
    · have e1 := rc_eq ha (i : Int)
      have e2 := rc_eq hb (i : Int)
      rw [Int.emod_eq_of_lt (by omega) (by omega), Int.toNat_natCast] at e1 e2
      rw [e1, e2, hf]
    · rw [List.getElem?_eq_none (by omega), List.getElem?_eq_none (by omega)]
theorem rc_add_len {row : List Int} (p k : Int) : rc row (p + k * row.length) = rc row p := by
  unfold rc
  rw [Int.add_mul_emod_self_right]
def IsPer (f : Int → Int) (p : Nat) : Prop := 0 < p ∧ ∀ i, f (i + p) = f i
theorem IsPer.mul {f : Int → Int} {p : Nat} (h : IsPer f p) : ∀ (k : Nat) (i : Int), f (i + (k * p : Nat)) = f i
  | 0, i => by simp
  | k + 1, i => by
    have e : i + ((k + 1) * p : Nat) = i + (k * p : Nat) + p := by rw [Nat.succ_mul]; omega
    rw [e, h.2, IsPer.mul h k]
theorem IsPer.mod {f : Int → Int} {p q : Nat} (hp : IsPer f p) (hq : IsPer f q) (h : 0 < p % q) : IsPer f (p % q) := by
  refine ⟨h, fun i => ?_⟩
  have e1 := hq.mul (p / q) (i + (p % q : Nat))
  have e2 : i + ((p % q : Nat) : Int) + ((p / q * q : Nat) : Int) = i + p := by
    have := Nat.div_add_mod' p q
    omega
  rw [e2, hp.2] at e1
  exact e1.symm
/-- the least period -/
def Least (f : Int → Int) (p : Nat) : Prop := IsPer f p ∧ ∀ q, IsPer f q → p ≤ q
theorem least_ex {f : Int → Int} : ∀ (n p : Nat), p ≤ n → IsPer f p → ∃ q, q ≤ p ∧ Least f q
  | 0, p, h, hp => absurd hp.1 (by omega)
  | n + 1, p, h, hp => by
    by_cases hq : ∃ q, q < p ∧ IsPer f q
    · obtain ⟨q, h1, h2⟩ := hq
      obtain ⟨r, h3, h4⟩ := least_ex n q (by omega) h2
      exact ⟨r, by omega, h4⟩
    · exact ⟨p, Nat.le_refl _, hp, fun q h2 => by
        rcases Nat.lt_or_ge q p with h3 | h3
        · exact absurd ⟨q, h3, h2⟩ hq
        · exact h3⟩
theorem Least.dvd {f : Int → Int} {p q : Nat} (h : Least f p) (hq : IsPer f q) : q % p = 0 := by
  rcases Nat.eq_zero_or_pos (q % p) with e | e
  · exact e
  · have h1 := h.2 _ (hq.mod h.1 e)
    have h2 := Nat.mod_lt q h.1.1
    omega
theorem Least.eq {f : Int → Int} {p q : Nat} (h : Least f p) (h' : Least f q) : p = q := Nat.le_antisymm (h.2 _ h'.1) (h'.2 _ h.1)
theorem per_len {row : List Int} (h : row ≠ []) : IsPer (rc row) row.length := ⟨List.length_pos_iff.mpr h, fun i => by
  have := rc_add_len (row := row) i 1
  rwa [Int.one_mul] at this⟩
theorem take_ne {row : List Int} {p : Nat} (h : row ≠ []) (hp : 0 < p) : row.take p ≠ [] := fun e => by
  have := congrArg List.length e
  have h0 : 0 < row.length := List.length_pos_iff.mpr h
  rw [List.length_take, List.length_nil] at this
  omega
/-- a row that is a part of it, repeated -/
theorem per_of_rep {row : List Int} {p k : Nat} (h : row ≠ []) (hp : 0 < p) (hl : p ≤ row.length) (e : rep k (row.take p) = row) : IsPer (rc row) p := by
  have ht := take_ne h hp
  have hk : 0 < k := by
    rcases Nat.eq_zero_or_pos k with z | z
    · rw [z] at e; exact absurd e.symm h
    · exact z
  refine ⟨hp, fun i => ?_⟩
  have l1 : (row.take p).length = p := by rw [List.length_take]; omega
  have := rc_add_len (row := row.take p) i 1
  rw [Int.one_mul, l1] at this
  rw [← e, rc_rep hk ht, rc_rep hk ht]
  exact this
theorem rc_take {row : List Int} {p : Nat} (h : row ≠ []) (hp : IsPer (rc row) p) (hl : p ≤ row.length) (i : Int) : rc (row.take p) i = rc row i := by
  have l1 : (row.take p).length = p := by rw [List.length_take]; omega
  have e1 := rc_eq (take_ne h hp.1) i
  rw [l1] at e1
  have n0 := Int.emod_nonneg i (show (p : Int) ≠ 0 by have := hp.1; omega)
  have n1 := Int.emod_lt_of_pos i (show (0 : Int) < p by have := hp.1; omega)
  obtain ⟨m, hm⟩ := Int.eq_ofNat_of_zero_le n0
  rw [hm, Int.toNat_natCast, List.getElem?_take_of_lt (by omega)] at e1
  have e2 := rc_eq h (m : Int)
  rw [Int.emod_eq_of_lt (by omega) (by omega), Int.toNat_natCast, e1] at e2
  rw [Option.some.inj e2]
  -- i = m + k p
  have d := Int.mul_ediv_add_emod i p
  rw [hm] at d
  rcases Int.le_total 0 (i / p) with hk | hk
  · obtain ⟨k, hk⟩ := Int.eq_ofNat_of_zero_le hk
    have := hp.mul k m
    rw [show i = (m : Int) + ((k * p : Nat) : Int) by rw [Int.natCast_mul, ← hk, Int.mul_comm]; omega]
    exact this.symm
  · obtain ⟨k, hk⟩ := Int.eq_ofNat_of_zero_le (show 0 ≤ -(i / (p : Int)) by omega)
    have := hp.mul k i
    rw [show i + ((k * p : Nat) : Int) = m by rw [Int.natCast_mul, ← hk, Int.mul_comm, Int.mul_neg]; omega] at this
    exact this
theorem rep_of_per {row : List Int} {p : Nat} (h : row ≠ []) (hp : IsPer (rc row) p) (hd : row.length % p = 0) : rep (row.length / p) (row.take p) = row := by
  have h0 : 0 < row.length := List.length_pos_iff.mpr h
  have hl : p ≤ row.length := Nat.le_of_dvd h0 (Nat.dvd_of_mod_eq_zero hd)
  have l1 : (row.take p).length = p := by rw [List.length_take]; omega
  have e1 : row.length / p * p = row.length := Nat.div_mul_cancel (Nat.dvd_of_mod_eq_zero hd)
  have hk : 0 < row.length / p := Nat.div_pos hl hp.1
  refine rc_ext (by rw [rep_len, l1, e1]) fun i => ?_
  rw [rc_rep hk (take_ne h hp.1), rc_take h hp hl]
theorem rep_iff {row : List Int} {p : Nat} (h : row ≠ []) (hp : 0 < p) (hl : p ≤ row.length) (hd : row.length % p = 0) : (rep (row.length / p) (row.take p) = row) ↔ IsPer (rc row) p := ⟨per_of_rep h hp hl, fun hq => rep_of_per h hq hd⟩
theorem eqvs_ints : ∀ xs ys : List Int, PyData.eqvAll (xs.map .int) (ys.map .int) = decide (xs = ys)
  | [], [] => by simp [PyData.eqvAll]
  | [], _ :: _ => by simp [PyData.eqvAll]
  | _ :: _, [] => by simp [PyData.eqvAll]
  | x :: xs, y :: ys => by
    rw [List.map_cons, List.map_cons, PyData.eqvAll, eqvs_ints xs ys, PyData.eqv]
    by_cases h : x = y
    · subst h; simp
    · simp [h]
theorem gEq_ints2 (xs ys : List Int) : gEq (.list (xs.map .int)) (.list (ys.map .int)) = some (.bool (cd (xs = ys))) := by
  rw [gEq_n rfl, if_pos (by simp only [PyData.depth, depths_ints]; omega), PyData.eqv, eqvs_ints, cd_eq]
theorem gNe_ints2 (xs ys : List Int) : gNe (.list (xs.map .int)) (.list (ys.map .int)) = some (.bool (!cd (xs = ys))) := by
  rw [gNe_n rfl, if_pos (by simp only [PyData.depth, depths_ints]; omega), PyData.eqv, eqvs_ints, cd_eq]
theorem cutD_to {ds : List PyData} (p : Nat) : PL.cutD ds none (some (p : Int)) = ds.take p := by
  unfold PL.cutD
  rw [HT.sIx_nat]
  show (ds.drop 0).take (min p ds.length - 0) = _
  rw [List.drop_zero, Nat.sub_zero]
  by_cases h : p ≤ ds.length
  · rw [Nat.min_eq_left h]
  · rw [Nat.min_eq_right (by omega), List.take_length, List.take_of_length_le (by omega)]
theorem range'_cons {a n b : Nat} {l : List Nat} (h : b :: l = List.range' a (n - a)) : b = a ∧ a < n ∧ l = List.range' (a + 1) (n - (a + 1)) := by
  by_cases hn : a < n
  · rw [show n - a = (n - (a + 1)) + 1 by omega, List.range'_succ] at h
    injection h with h1 h2
    exact ⟨h1, hn, h2⟩
  · rw [show n - a = 0 by omega] at h
    cases h
theorem range'_nil {a n : Nat} (h : [] = List.range' a (n - a)) : n ≤ a := by
  have := congrArg List.length h
  rw [List.length_range', List.length_nil] at this
  omega
def B_round_simple_1 : SF := (sIf (bAnd (bOf (e2 (fD gEq) (e2 (fD gMod) (eVar 1) (eVar 2)) (eC (.int 0)))) (bOf (e2 (fD gEq) (e2 fMul (eSl (eVar 0) pN (pS (eVar 2))) (e2 (fD gDiv) (eVar 1) (eVar 2))) (eVar 0))))
  sBreak
  sNil)
def F_round_simple : SF := (sSeq (sSetZ 1 (eCB (fD1 gLen) [(eVar 0)]))
  (sSeq (sForD [] (iR [(eC (.int 1)), (e2 fAdd (eVar 1) (eC (.int 1)))]) (gN 2)
  PF.B_round_simple_1)
  (sRet (eSl (eVar 0) pN (pS (eVar 2))))))
def f_round_simple : FN := callF 3 F_round_simple
theorem round_simple_ok {row : List Int} (h : row ≠ []) (hl : row.length < 16777216) : ∃ p, Least (rc row) p ∧ p ≤ row.length ∧ f_round_simple [.list (row.map .int)] = some (.ret true (.list ((row.take p).map .int))) := by
  have h0 : 0 < row.length := List.length_pos_iff.mpr h
  obtain ⟨p, hp1, hp⟩ := least_ex row.length row.length (Nat.le_refl _) (per_len h)
  refine ⟨p, hp, hp1, ?_⟩
  have pd := hp.dvd (per_len h)
  have p0 := hp.1.1
  have h6 : small62 1 = true := small62_ok (by decide) (by decide)
  have h7 : small62 ((row.length : Int) + 1) = true := small62_ok (by omega) (by omega)
  simp only [f_round_simple, F_round_simple, ev_seq, kSeq_nx, kSeq_rt, kSeq_bk, kSeq_ct, kSeq_ex, ev_nil, ev_pass, ev_break, ev_cont, ev_retn, ev_fg, fgt_nil, fgt_cons, ev_gh, kGh_some, ev_gfrz, kFrz_some, ev_gown, kOwn_full, kOwn_own, kOwn_val, ev_setZ, kSetZ_val, kSetZ_own, kSetZ_full, kSetZ_ex, ev_set, kSet_val, kSet_own, kSet_full, kSet_ex, ev_ret, kRet_val, kRet_own, kRet_full, kRet_ex, ev_retO, kRetO_own, kRetO_val, kRetO_full, ev_expr, kExpr_ok, kExpr_ex, ev_if, kIf_true, kIf_false, ev_for, kFor_ok, ev_while, ev_turn, kTurn1_some, kTurn_nx, kTurn_ct, kTurn_bk, kTurn_rt, kTurn_ex, ev_wturn, kW_true, kW_false, ev_gN, ev_gT, kT_some, itemsT_val, gSets_nil, gSets_val, mkv_int, mkv_bool, mkv_str, mkv_none, mkv_list, mkv_tuple, ev_unp, kUnp_val, kUnp_full, kU_some, ev_aug, kAug_val, kA_some, ev_app, kApp_val, kApp_own, kApp_full, ev_put, kPut_val, callF_eq, entE_nil, unds_succ, unds_zero, entE_cons, entS_int, entS_bool, entS_str, entS_none, entS_list, entS_tuple, kF_nx, kF_rt, kF_ex, frOf_val, frOf_own, frOf_full, ev_var, kVar_val, kVar_own, kVar_full, ev_c, ev_e2, k2_ok, okO_some, ev_e1, k1_ok, frz_val, frz_own, frz_full, frz_bor, frz_brf, dat_val, dat_bor, dat_brf, ev_evs0, ev_evs, kC_ok, ev_cb, kCB_ok, ev_call, kCall_ok, ev_cres, kRs_some, kRes_int, kRes_bool, kRes_str, kRes_none, kRes_list, kRes_tuple, kRes_false, kRes_exc, dats_nil, dats_cons, kD_some, isVal_val, isVal_bor, isVal_brf, ev_isa, kIsa_val, kIsa_own, kIsa_bor, kIsa_full, kIsa_brf, ev_and, kAnd_val, kAnd2_true, kAnd2_false, kAnd2_val, ev_or, kOr_val, kOr2_true, kOr2_false, kOr2_val, ev_not, kNot_val, ev_ife, kIfE_true, kIfE_false, ev_bof, kB_val, ev_tof, kTo_val, kTo_own, kTo_bor, kTo_full, kTo_brf, okB_some, truth_bool, truth_int, truth_none, truth_list, truth_tuple, ev_bnot, kNotB_ok, ev_band, kAndB_ok, kAndB2_true, kAndB2_false, kAndB2_ok, ev_bor, kOrB_ok, kOrB2_true, kOrB2_false, kOrB2_ok, ev_chain, kCh_ok, kCh2_false, kCh2_true, ev_fD, kD2_some, kS_int, kS_bool, kS_str, kS_none, ev_sub, ev_addI, ev_iadd, ev_div, ev_mod, ev_pow, ev_mulI, ev_neg, ev_eqI, ev_neI, ev_ltI, ev_leI, ev_gtI, ev_geI, ev_fD1, kD1_some, ev_int, ev_intb, ev_abs, ev_lenL, ev_lenT, ev_fI2, ev_catVV, ev_repV, ev_list, kLst_ok, ev_tup, kTup_ok, kMk_some, kMkT_some, stors_nil, stors_cons, kSt_some, stor_val, ev_ixL, ev_ixT, ev_ixB, atI_cast, atI_0, atI_1, atI_2, atI_3, atI_4, atI_5, atI_6, atI_7, ev_slice, kSl_val, kSl_own, kSl_bor, kSl_full, ev_pN, ev_pS, kP_int, ev_rev, ev_ls, ev_lsT, ev_tl, all_scal, ev_sorted, kSo_some, ev_iL, kIL_val, kIL_own, kIL_full, ev_iR, kR_1, kR_2, map_mkv_int, mkI_eq, rngI_eq, mkN_eq, ev_iR3, kR3_ok, rngC_eq, mkC_eq, ev_iM, kM_ok, kM2_some, mkEn_val, mkTp_val, ev_iZp, kZp_ok, mkZp_val, ev_lc, kLc_ok, kLcM_some, wipeE_nil, wipeE_cons, ev_byes, kE_val, kE_own, kE_full, kEl_some, kTl_some, ev_appAt, kAppAt_tuple, kAppAt_list, kAA_ok, ev_andI, ev_orI, ev_shr, ev_shl, List.getElem?_cons_zero, List.getElem?_cons_succ, List.set_cons_zero, List.set_cons_succ, List.all_nil, List.all_cons, Bool.and_true, Bool.true_and, Bool.or_true, Bool.true_or, Bool.or_false, Bool.false_or, Bool.and_false, Bool.false_and, Bool.not_true, Bool.not_false, Option.map_some, List.length_nil, List.length_cons, List.length_map, List.nil_append, List.map_cons, List.map_nil, scal_int, scal_bool, scal_str, scal_none, scal_list, scal_tuple, cd_true, cd_false, not_true_eq_false, not_false_eq_true, Nat.zero_le, and_self, true_and, and_true, ne_eq, not_false_eq_true, reduceIte, Nat.reduceLT, Nat.reduceLeDiff, Nat.reduceAdd, Nat.reduceMul, Nat.reduceSub, Nat.reduceEqDiff, Int.reduceLT, Int.reduceLE, Int.reduceAdd, Int.reduceSub, Int.reduceMul, Int.reduceNeg, Int.reduceToNat, Int.reduceEq, Int.reduceAbs, Int.reducePow, h6, h7, rngI_eq]
  refine forT_run (fun l ρ => ∃ a x, l = List.range' a (row.length - a) ∧ a < p ∧ ρ = [.val false (.list (row.map .int)), .val true (.int row.length), x]) (fun o => kF (kSeq o _) = _) ?_ ?_ _ _ ⟨0, _, ?_, p0, rfl⟩
  · rintro ρ ⟨a, x, e1, e3, rfl⟩
    have := range'_nil e1
    omega
  · rintro b l ρ ⟨a, x, e1, e3, rfl⟩
    obtain ⟨rfl, e4, e5⟩ := range'_cons e1
    have ap : (1 : Int) + (b : Int) = ((b + 1 : Nat) : Int) := by omega
    have q1 : (0 : Int) < ((b + 1 : Nat) : Int) := by omega
    have q2 : ((b + 1 : Nat) : Int) < 1073741824 := by omega
    have q3 : (row.length : Int) / ((b + 1 : Nat) : Int) = ((row.length / (b + 1) : Nat) : Int) := rfl
    have q4 : (row.length : Int) % ((b + 1 : Nat) : Int) = ((row.length % (b + 1) : Nat) : Int) := rfl
    have q6 : row.length / (b + 1) ≤ row.length := Nat.div_le_self _ _
    have q0 := Int.natCast_nonneg (row.length / (b + 1))
    have q5 : (-9223372036854775808 : Int) ≤ ((row.length / (b + 1) : Nat) : Int) := Int.le_trans (by decide) q0
    have q7 : ((row.length / (b + 1) : Nat) : Int) < 9223372036854775808 := by omega
    have q8 : ((row.map PyData.int).take (b + 1)).length * (row.length / (b + 1)) ≤ 16777216 := by
      rw [List.length_take, List.length_map, Nat.min_eq_left (by omega)]
      have := Nat.mul_div_le row.length (b + 1)
      omega
    have q9 : (List.replicate (row.length / (b + 1)) ((row.map PyData.int).take (b + 1))).flatten = (rep (row.length / (b + 1)) (row.take (b + 1))).map .int := by rw [← List.map_take, rep_map]
    by_cases hd : row.length % (b + 1) = 0
    · have hdI : ((row.length % (b + 1) : Nat) : Int) = 0 := by rw [hd]; rfl
      have iff := rep_iff (p := b + 1) h (by omega) (by omega) hd
      by_cases hr : rep (row.length / (b + 1)) (row.take (b + 1)) = row
      · right; left
        have e6 : b + 1 = p := Nat.le_antisymm (by omega) (hp.2 _ (iff.mp hr))
        simp only [B_round_simple_1, ev_seq, kSeq_nx, kSeq_rt, kSeq_bk, kSeq_ct, kSeq_ex, ev_nil, ev_pass, ev_break, ev_cont, ev_retn, ev_fg, fgt_nil, fgt_cons, ev_gh, kGh_some, ev_gfrz, kFrz_some, ev_gown, kOwn_full, kOwn_own, kOwn_val, ev_setZ, kSetZ_val, kSetZ_own, kSetZ_full, kSetZ_ex, ev_set, kSet_val, kSet_own, kSet_full, kSet_ex, ev_ret, kRet_val, kRet_own, kRet_full, kRet_ex, ev_retO, kRetO_own, kRetO_val, kRetO_full, ev_expr, kExpr_ok, kExpr_ex, ev_if, kIf_true, kIf_false, ev_for, kFor_ok, ev_while, ev_turn, kTurn1_some, kTurn_nx, kTurn_ct, kTurn_bk, kTurn_rt, kTurn_ex, ev_wturn, kW_true, kW_false, ev_gN, ev_gT, kT_some, itemsT_val, gSets_nil, gSets_val, mkv_int, mkv_bool, mkv_str, mkv_none, mkv_list, mkv_tuple, ev_unp, kUnp_val, kUnp_full, kU_some, ev_aug, kAug_val, kA_some, ev_app, kApp_val, kApp_own, kApp_full, ev_put, kPut_val, callF_eq, entE_nil, unds_succ, unds_zero, entE_cons, entS_int, entS_bool, entS_str, entS_none, entS_list, entS_tuple, kF_nx, kF_rt, kF_ex, frOf_val, frOf_own, frOf_full, ev_var, kVar_val, kVar_own, kVar_full, ev_c, ev_e2, k2_ok, okO_some, ev_e1, k1_ok, frz_val, frz_own, frz_full, frz_bor, frz_brf, dat_val, dat_bor, dat_brf, ev_evs0, ev_evs, kC_ok, ev_cb, kCB_ok, ev_call, kCall_ok, ev_cres, kRs_some, kRes_int, kRes_bool, kRes_str, kRes_none, kRes_list, kRes_tuple, kRes_false, kRes_exc, dats_nil, dats_cons, kD_some, isVal_val, isVal_bor, isVal_brf, ev_isa, kIsa_val, kIsa_own, kIsa_bor, kIsa_full, kIsa_brf, ev_and, kAnd_val, kAnd2_true, kAnd2_false, kAnd2_val, ev_or, kOr_val, kOr2_true, kOr2_false, kOr2_val, ev_not, kNot_val, ev_ife, kIfE_true, kIfE_false, ev_bof, kB_val, ev_tof, kTo_val, kTo_own, kTo_bor, kTo_full, kTo_brf, okB_some, truth_bool, truth_int, truth_none, truth_list, truth_tuple, ev_bnot, kNotB_ok, ev_band, kAndB_ok, kAndB2_true, kAndB2_false, kAndB2_ok, ev_bor, kOrB_ok, kOrB2_true, kOrB2_false, kOrB2_ok, ev_chain, kCh_ok, kCh2_false, kCh2_true, ev_fD, kD2_some, kS_int, kS_bool, kS_str, kS_none, ev_sub, ev_addI, ev_iadd, ev_div, ev_mod, ev_pow, ev_mulI, ev_neg, ev_eqI, ev_neI, ev_ltI, ev_leI, ev_gtI, ev_geI, ev_fD1, kD1_some, ev_int, ev_intb, ev_abs, ev_lenL, ev_lenT, ev_fI2, ev_catVV, ev_repV, ev_list, kLst_ok, ev_tup, kTup_ok, kMk_some, kMkT_some, stors_nil, stors_cons, kSt_some, stor_val, ev_ixL, ev_ixT, ev_ixB, atI_cast, atI_0, atI_1, atI_2, atI_3, atI_4, atI_5, atI_6, atI_7, ev_slice, kSl_val, kSl_own, kSl_bor, kSl_full, ev_pN, ev_pS, kP_int, ev_rev, ev_ls, ev_lsT, ev_tl, all_scal, ev_sorted, kSo_some, ev_iL, kIL_val, kIL_own, kIL_full, ev_iR, kR_1, kR_2, map_mkv_int, mkI_eq, rngI_eq, mkN_eq, ev_iR3, kR3_ok, rngC_eq, mkC_eq, ev_iM, kM_ok, kM2_some, mkEn_val, mkTp_val, ev_iZp, kZp_ok, mkZp_val, ev_lc, kLc_ok, kLcM_some, wipeE_nil, wipeE_cons, ev_byes, kE_val, kE_own, kE_full, kEl_some, kTl_some, ev_appAt, kAppAt_tuple, kAppAt_list, kAA_ok, ev_andI, ev_orI, ev_shr, ev_shl, List.getElem?_cons_zero, List.getElem?_cons_succ, List.set_cons_zero, List.set_cons_succ, List.all_nil, List.all_cons, Bool.and_true, Bool.true_and, Bool.or_true, Bool.true_or, Bool.or_false, Bool.false_or, Bool.and_false, Bool.false_and, Bool.not_true, Bool.not_false, Option.map_some, List.length_nil, List.length_cons, List.length_map, List.nil_append, List.map_cons, List.map_nil, scal_int, scal_bool, scal_str, scal_none, scal_list, scal_tuple, cd_true, cd_false, not_true_eq_false, not_false_eq_true, Nat.zero_le, and_self, true_and, and_true, ne_eq, not_false_eq_true, reduceIte, Nat.reduceLT, Nat.reduceLeDiff, Nat.reduceAdd, Nat.reduceMul, Nat.reduceSub, Nat.reduceEqDiff, Int.reduceLT, Int.reduceLE, Int.reduceAdd, Int.reduceSub, Int.reduceMul, Int.reduceNeg, Int.reduceToNat, Int.reduceEq, Int.reduceAbs, Int.reducePow, mkN_eq, ap, q1, q2, q3, q4, hdI, cutD_to, Int.toNat_natCast, q5, q7, q8, q9, all_scal, gEq_ints2, hr]
        refine ⟨_, rfl, ?_⟩
        simp only [ev_seq, kSeq_nx, kSeq_rt, kSeq_bk, kSeq_ct, kSeq_ex, ev_nil, ev_pass, ev_break, ev_cont, ev_retn, ev_fg, fgt_nil, fgt_cons, ev_gh, kGh_some, ev_gfrz, kFrz_some, ev_gown, kOwn_full, kOwn_own, kOwn_val, ev_setZ, kSetZ_val, kSetZ_own, kSetZ_full, kSetZ_ex, ev_set, kSet_val, kSet_own, kSet_full, kSet_ex, ev_ret, kRet_val, kRet_own, kRet_full, kRet_ex, ev_retO, kRetO_own, kRetO_val, kRetO_full, ev_expr, kExpr_ok, kExpr_ex, ev_if, kIf_true, kIf_false, ev_for, kFor_ok, ev_while, ev_turn, kTurn1_some, kTurn_nx, kTurn_ct, kTurn_bk, kTurn_rt, kTurn_ex, ev_wturn, kW_true, kW_false, ev_gN, ev_gT, kT_some, itemsT_val, gSets_nil, gSets_val, mkv_int, mkv_bool, mkv_str, mkv_none, mkv_list, mkv_tuple, ev_unp, kUnp_val, kUnp_full, kU_some, ev_aug, kAug_val, kA_some, ev_app, kApp_val, kApp_own, kApp_full, ev_put, kPut_val, callF_eq, entE_nil, unds_succ, unds_zero, entE_cons, entS_int, entS_bool, entS_str, entS_none, entS_list, entS_tuple, kF_nx, kF_rt, kF_ex, frOf_val, frOf_own, frOf_full, ev_var, kVar_val, kVar_own, kVar_full, ev_c, ev_e2, k2_ok, okO_some, ev_e1, k1_ok, frz_val, frz_own, frz_full, frz_bor, frz_brf, dat_val, dat_bor, dat_brf, ev_evs0, ev_evs, kC_ok, ev_cb, kCB_ok, ev_call, kCall_ok, ev_cres, kRs_some, kRes_int, kRes_bool, kRes_str, kRes_none, kRes_list, kRes_tuple, kRes_false, kRes_exc, dats_nil, dats_cons, kD_some, isVal_val, isVal_bor, isVal_brf, ev_isa, kIsa_val, kIsa_own, kIsa_bor, kIsa_full, kIsa_brf, ev_and, kAnd_val, kAnd2_true, kAnd2_false, kAnd2_val, ev_or, kOr_val, kOr2_true, kOr2_false, kOr2_val, ev_not, kNot_val, ev_ife, kIfE_true, kIfE_false, ev_bof, kB_val, ev_tof, kTo_val, kTo_own, kTo_bor, kTo_full, kTo_brf, okB_some, truth_bool, truth_int, truth_none, truth_list, truth_tuple, ev_bnot, kNotB_ok, ev_band, kAndB_ok, kAndB2_true, kAndB2_false, kAndB2_ok, ev_bor, kOrB_ok, kOrB2_true, kOrB2_false, kOrB2_ok, ev_chain, kCh_ok, kCh2_false, kCh2_true, ev_fD, kD2_some, kS_int, kS_bool, kS_str, kS_none, ev_sub, ev_addI, ev_iadd, ev_div, ev_mod, ev_pow, ev_mulI, ev_neg, ev_eqI, ev_neI, ev_ltI, ev_leI, ev_gtI, ev_geI, ev_fD1, kD1_some, ev_int, ev_intb, ev_abs, ev_lenL, ev_lenT, ev_fI2, ev_catVV, ev_repV, ev_list, kLst_ok, ev_tup, kTup_ok, kMk_some, kMkT_some, stors_nil, stors_cons, kSt_some, stor_val, ev_ixL, ev_ixT, ev_ixB, atI_cast, atI_0, atI_1, atI_2, atI_3, atI_4, atI_5, atI_6, atI_7, ev_slice, kSl_val, kSl_own, kSl_bor, kSl_full, ev_pN, ev_pS, kP_int, ev_rev, ev_ls, ev_lsT, ev_tl, all_scal, ev_sorted, kSo_some, ev_iL, kIL_val, kIL_own, kIL_full, ev_iR, kR_1, kR_2, map_mkv_int, mkI_eq, rngI_eq, mkN_eq, ev_iR3, kR3_ok, rngC_eq, mkC_eq, ev_iM, kM_ok, kM2_some, mkEn_val, mkTp_val, ev_iZp, kZp_ok, mkZp_val, ev_lc, kLc_ok, kLcM_some, wipeE_nil, wipeE_cons, ev_byes, kE_val, kE_own, kE_full, kEl_some, kTl_some, ev_appAt, kAppAt_tuple, kAppAt_list, kAA_ok, ev_andI, ev_orI, ev_shr, ev_shl, List.getElem?_cons_zero, List.getElem?_cons_succ, List.set_cons_zero, List.set_cons_succ, List.all_nil, List.all_cons, Bool.and_true, Bool.true_and, Bool.or_true, Bool.true_or, Bool.or_false, Bool.false_or, Bool.and_false, Bool.false_and, Bool.not_true, Bool.not_false, Option.map_some, List.length_nil, List.length_cons, List.length_map, List.nil_append, List.map_cons, List.map_nil, scal_int, scal_bool, scal_str, scal_none, scal_list, scal_tuple, cd_true, cd_false, not_true_eq_false, not_false_eq_true, Nat.zero_le, and_self, true_and, and_true, ne_eq, not_false_eq_true, reduceIte, Nat.reduceLT, Nat.reduceLeDiff, Nat.reduceAdd, Nat.reduceMul, Nat.reduceSub, Nat.reduceEqDiff, Int.reduceLT, Int.reduceLE, Int.reduceAdd, Int.reduceSub, Int.reduceMul, Int.reduceNeg, Int.reduceToNat, Int.reduceEq, Int.reduceAbs, Int.reducePow, cutD_to, all_scal, e6]
        rw [List.map_take]
      · left
        have e7 : b + 1 ≠ p := fun z => hr (iff.mpr (by rw [z]; exact hp.1))
        simp only [B_round_simple_1, ev_seq, kSeq_nx, kSeq_rt, kSeq_bk, kSeq_ct, kSeq_ex, ev_nil, ev_pass, ev_break, ev_cont, ev_retn, ev_fg, fgt_nil, fgt_cons, ev_gh, kGh_some, ev_gfrz, kFrz_some, ev_gown, kOwn_full, kOwn_own, kOwn_val, ev_setZ, kSetZ_val, kSetZ_own, kSetZ_full, kSetZ_ex, ev_set, kSet_val, kSet_own, kSet_full, kSet_ex, ev_ret, kRet_val, kRet_own, kRet_full, kRet_ex, ev_retO, kRetO_own, kRetO_val, kRetO_full, ev_expr, kExpr_ok, kExpr_ex, ev_if, kIf_true, kIf_false, ev_for, kFor_ok, ev_while, ev_turn, kTurn1_some, kTurn_nx, kTurn_ct, kTurn_bk, kTurn_rt, kTurn_ex, ev_wturn, kW_true, kW_false, ev_gN, ev_gT, kT_some, itemsT_val, gSets_nil, gSets_val, mkv_int, mkv_bool, mkv_str, mkv_none, mkv_list, mkv_tuple, ev_unp, kUnp_val, kUnp_full, kU_some, ev_aug, kAug_val, kA_some, ev_app, kApp_val, kApp_own, kApp_full, ev_put, kPut_val, callF_eq, entE_nil, unds_succ, unds_zero, entE_cons, entS_int, entS_bool, entS_str, entS_none, entS_list, entS_tuple, kF_nx, kF_rt, kF_ex, frOf_val, frOf_own, frOf_full, ev_var, kVar_val, kVar_own, kVar_full, ev_c, ev_e2, k2_ok, okO_some, ev_e1, k1_ok, frz_val, frz_own, frz_full, frz_bor, frz_brf, dat_val, dat_bor, dat_brf, ev_evs0, ev_evs, kC_ok, ev_cb, kCB_ok, ev_call, kCall_ok, ev_cres, kRs_some, kRes_int, kRes_bool, kRes_str, kRes_none, kRes_list, kRes_tuple, kRes_false, kRes_exc, dats_nil, dats_cons, kD_some, isVal_val, isVal_bor, isVal_brf, ev_isa, kIsa_val, kIsa_own, kIsa_bor, kIsa_full, kIsa_brf, ev_and, kAnd_val, kAnd2_true, kAnd2_false, kAnd2_val, ev_or, kOr_val, kOr2_true, kOr2_false, kOr2_val, ev_not, kNot_val, ev_ife, kIfE_true, kIfE_false, ev_bof, kB_val, ev_tof, kTo_val, kTo_own, kTo_bor, kTo_full, kTo_brf, okB_some, truth_bool, truth_int, truth_none, truth_list, truth_tuple, ev_bnot, kNotB_ok, ev_band, kAndB_ok, kAndB2_true, kAndB2_false, kAndB2_ok, ev_bor, kOrB_ok, kOrB2_true, kOrB2_false, kOrB2_ok, ev_chain, kCh_ok, kCh2_false, kCh2_true, ev_fD, kD2_some, kS_int, kS_bool, kS_str, kS_none, ev_sub, ev_addI, ev_iadd, ev_div, ev_mod, ev_pow, ev_mulI, ev_neg, ev_eqI, ev_neI, ev_ltI, ev_leI, ev_gtI, ev_geI, ev_fD1, kD1_some, ev_int, ev_intb, ev_abs, ev_lenL, ev_lenT, ev_fI2, ev_catVV, ev_repV, ev_list, kLst_ok, ev_tup, kTup_ok, kMk_some, kMkT_some, stors_nil, stors_cons, kSt_some, stor_val, ev_ixL, ev_ixT, ev_ixB, atI_cast, atI_0, atI_1, atI_2, atI_3, atI_4, atI_5, atI_6, atI_7, ev_slice, kSl_val, kSl_own, kSl_bor, kSl_full, ev_pN, ev_pS, kP_int, ev_rev, ev_ls, ev_lsT, ev_tl, all_scal, ev_sorted, kSo_some, ev_iL, kIL_val, kIL_own, kIL_full, ev_iR, kR_1, kR_2, map_mkv_int, mkI_eq, rngI_eq, mkN_eq, ev_iR3, kR3_ok, rngC_eq, mkC_eq, ev_iM, kM_ok, kM2_some, mkEn_val, mkTp_val, ev_iZp, kZp_ok, mkZp_val, ev_lc, kLc_ok, kLcM_some, wipeE_nil, wipeE_cons, ev_byes, kE_val, kE_own, kE_full, kEl_some, kTl_some, ev_appAt, kAppAt_tuple, kAppAt_list, kAA_ok, ev_andI, ev_orI, ev_shr, ev_shl, List.getElem?_cons_zero, List.getElem?_cons_succ, List.set_cons_zero, List.set_cons_succ, List.all_nil, List.all_cons, Bool.and_true, Bool.true_and, Bool.or_true, Bool.true_or, Bool.or_false, Bool.false_or, Bool.and_false, Bool.false_and, Bool.not_true, Bool.not_false, Option.map_some, List.length_nil, List.length_cons, List.length_map, List.nil_append, List.map_cons, List.map_nil, scal_int, scal_bool, scal_str, scal_none, scal_list, scal_tuple, cd_true, cd_false, not_true_eq_false, not_false_eq_true, Nat.zero_le, and_self, true_and, and_true, ne_eq, not_false_eq_true, reduceIte, Nat.reduceLT, Nat.reduceLeDiff, Nat.reduceAdd, Nat.reduceMul, Nat.reduceSub, Nat.reduceEqDiff, Int.reduceLT, Int.reduceLE, Int.reduceAdd, Int.reduceSub, Int.reduceMul, Int.reduceNeg, Int.reduceToNat, Int.reduceEq, Int.reduceAbs, Int.reducePow, mkN_eq, ap, q1, q2, q3, q4, hdI, cutD_to, Int.toNat_natCast, q5, q7, q8, q9, all_scal, gEq_ints2, hr]
        exact ⟨_, rfl, b + 1, _, e5, by omega, rfl⟩
    · left
      have e7 : b + 1 ≠ p := fun z => hd (by rw [z]; exact pd)
      have hdI : ¬ ((row.length % (b + 1) : Nat) : Int) = 0 := fun z => hd (by exact_mod_cast z)
      simp only [B_round_simple_1, ev_seq, kSeq_nx, kSeq_rt, kSeq_bk, kSeq_ct, kSeq_ex, ev_nil, ev_pass, ev_break, ev_cont, ev_retn, ev_fg, fgt_nil, fgt_cons, ev_gh, kGh_some, ev_gfrz, kFrz_some, ev_gown, kOwn_full, kOwn_own, kOwn_val, ev_setZ, kSetZ_val, kSetZ_own, kSetZ_full, kSetZ_ex, ev_set, kSet_val, kSet_own, kSet_full, kSet_ex, ev_ret, kRet_val, kRet_own, kRet_full, kRet_ex, ev_retO, kRetO_own, kRetO_val, kRetO_full, ev_expr, kExpr_ok, kExpr_ex, ev_if, kIf_true, kIf_false, ev_for, kFor_ok, ev_while, ev_turn, kTurn1_some, kTurn_nx, kTurn_ct, kTurn_bk, kTurn_rt, kTurn_ex, ev_wturn, kW_true, kW_false, ev_gN, ev_gT, kT_some, itemsT_val, gSets_nil, gSets_val, mkv_int, mkv_bool, mkv_str, mkv_none, mkv_list, mkv_tuple, ev_unp, kUnp_val, kUnp_full, kU_some, ev_aug, kAug_val, kA_some, ev_app, kApp_val, kApp_own, kApp_full, ev_put, kPut_val, callF_eq, entE_nil, unds_succ, unds_zero, entE_cons, entS_int, entS_bool, entS_str, entS_none, entS_list, entS_tuple, kF_nx, kF_rt, kF_ex, frOf_val, frOf_own, frOf_full, ev_var, kVar_val, kVar_own, kVar_full, ev_c, ev_e2, k2_ok, okO_some, ev_e1, k1_ok, frz_val, frz_own, frz_full, frz_bor, frz_brf, dat_val, dat_bor, dat_brf, ev_evs0, ev_evs, kC_ok, ev_cb, kCB_ok, ev_call, kCall_ok, ev_cres, kRs_some, kRes_int, kRes_bool, kRes_str, kRes_none, kRes_list, kRes_tuple, kRes_false, kRes_exc, dats_nil, dats_cons, kD_some, isVal_val, isVal_bor, isVal_brf, ev_isa, kIsa_val, kIsa_own, kIsa_bor, kIsa_full, kIsa_brf, ev_and, kAnd_val, kAnd2_true, kAnd2_false, kAnd2_val, ev_or, kOr_val, kOr2_true, kOr2_false, kOr2_val, ev_not, kNot_val, ev_ife, kIfE_true, kIfE_false, ev_bof, kB_val, ev_tof, kTo_val, kTo_own, kTo_bor, kTo_full, kTo_brf, okB_some, truth_bool, truth_int, truth_none, truth_list, truth_tuple, ev_bnot, kNotB_ok, ev_band, kAndB_ok, kAndB2_true, kAndB2_false, kAndB2_ok, ev_bor, kOrB_ok, kOrB2_true, kOrB2_false, kOrB2_ok, ev_chain, kCh_ok, kCh2_false, kCh2_true, ev_fD, kD2_some, kS_int, kS_bool, kS_str, kS_none, ev_sub, ev_addI, ev_iadd, ev_div, ev_mod, ev_pow, ev_mulI, ev_neg, ev_eqI, ev_neI, ev_ltI, ev_leI, ev_gtI, ev_geI, ev_fD1, kD1_some, ev_int, ev_intb, ev_abs, ev_lenL, ev_lenT, ev_fI2, ev_catVV, ev_repV, ev_list, kLst_ok, ev_tup, kTup_ok, kMk_some, kMkT_some, stors_nil, stors_cons, kSt_some, stor_val, ev_ixL, ev_ixT, ev_ixB, atI_cast, atI_0, atI_1, atI_2, atI_3, atI_4, atI_5, atI_6, atI_7, ev_slice, kSl_val, kSl_own, kSl_bor, kSl_full, ev_pN, ev_pS, kP_int, ev_rev, ev_ls, ev_lsT, ev_tl, all_scal, ev_sorted, kSo_some, ev_iL, kIL_val, kIL_own, kIL_full, ev_iR, kR_1, kR_2, map_mkv_int, mkI_eq, rngI_eq, mkN_eq, ev_iR3, kR3_ok, rngC_eq, mkC_eq, ev_iM, kM_ok, kM2_some, mkEn_val, mkTp_val, ev_iZp, kZp_ok, mkZp_val, ev_lc, kLc_ok, kLcM_some, wipeE_nil, wipeE_cons, ev_byes, kE_val, kE_own, kE_full, kEl_some, kTl_some, ev_appAt, kAppAt_tuple, kAppAt_list, kAA_ok, ev_andI, ev_orI, ev_shr, ev_shl, List.getElem?_cons_zero, List.getElem?_cons_succ, List.set_cons_zero, List.set_cons_succ, List.all_nil, List.all_cons, Bool.and_true, Bool.true_and, Bool.or_true, Bool.true_or, Bool.or_false, Bool.false_or, Bool.and_false, Bool.false_and, Bool.not_true, Bool.not_false, Option.map_some, List.length_nil, List.length_cons, List.length_map, List.nil_append, List.map_cons, List.map_nil, scal_int, scal_bool, scal_str, scal_none, scal_list, scal_tuple, cd_true, cd_false, not_true_eq_false, not_false_eq_true, Nat.zero_le, and_self, true_and, and_true, ne_eq, not_false_eq_true, reduceIte, Nat.reduceLT, Nat.reduceLeDiff, Nat.reduceAdd, Nat.reduceMul, Nat.reduceSub, Nat.reduceEqDiff, Int.reduceLT, Int.reduceLE, Int.reduceAdd, Int.reduceSub, Int.reduceMul, Int.reduceNeg, Int.reduceToNat, Int.reduceEq, Int.reduceAbs, Int.reducePow, mkN_eq, ap, q1, q2, q3, q4, hdI]
      exact ⟨_, rfl, b + 1, _, e5, by omega, rfl⟩
  · rw [List.range_eq_range']
    congr 1
    omega
def B__law_round_simple_1 : SF := (sIf (bAnd (bOf (e2 (fD gEq) (e2 (fD gMod) (eCB (fD1 gInt) [(eVar 1)]) (eVar 2)) (eC (.int 0)))) (bOf (e2 (fD gEq) (eVar 0) (e2 fMul (eSl (eVar 0) pN (pS (eVar 2))) (e2 (fD gDiv) (eVar 1) (eVar 2))))))
  (sRet (eSl (eVar 0) pN (pS (eVar 2))))
  sNil)
def F__law_round_simple : SF := (sSeq (sSetZ 1 (eCB (fD1 gLen) [(eVar 0)]))
  (sSeq (sForD [2] (iR [(eC (.int 1)), (e2 fAdd (eVar 1) (eC (.int 1)))]) (gN 2)
  PF.B__law_round_simple_1)
  (sRet (eCB fLs [(eVar 0)]))))
def f__law_round_simple : FN := callF 3 F__law_round_simple
theorem law_round_simple_ok {row : List Int} (h : row ≠ []) (hl : row.length < 16777216) : ∃ p, Least (rc row) p ∧ p ≤ row.length ∧ f__law_round_simple [.list (row.map .int)] = some (.ret true (.list ((row.take p).map .int))) := by
  have h0 : 0 < row.length := List.length_pos_iff.mpr h
  obtain ⟨p, hp1, hp⟩ := least_ex row.length row.length (Nat.le_refl _) (per_len h)
  refine ⟨p, hp, hp1, ?_⟩
  have pd := hp.dvd (per_len h)
  have p0 := hp.1.1
  have h6 : small62 1 = true := small62_ok (by decide) (by decide)
  have h7 : small62 ((row.length : Int) + 1) = true := small62_ok (by omega) (by omega)
  simp only [f__law_round_simple, F__law_round_simple, ev_seq, kSeq_nx, kSeq_rt, kSeq_bk, kSeq_ct, kSeq_ex, ev_nil, ev_pass, ev_break, ev_cont, ev_retn, ev_fg, fgt_nil, fgt_cons, ev_gh, kGh_some, ev_gfrz, kFrz_some, ev_gown, kOwn_full, kOwn_own, kOwn_val, ev_setZ, kSetZ_val, kSetZ_own, kSetZ_full, kSetZ_ex, ev_set, kSet_val, kSet_own, kSet_full, kSet_ex, ev_ret, kRet_val, kRet_own, kRet_full, kRet_ex, ev_retO, kRetO_own, kRetO_val, kRetO_full, ev_expr, kExpr_ok, kExpr_ex, ev_if, kIf_true, kIf_false, ev_for, kFor_ok, ev_while, ev_turn, kTurn1_some, kTurn_nx, kTurn_ct, kTurn_bk, kTurn_rt, kTurn_ex, ev_wturn, kW_true, kW_false, ev_gN, ev_gT, kT_some, itemsT_val, gSets_nil, gSets_val, mkv_int, mkv_bool, mkv_str, mkv_none, mkv_list, mkv_tuple, ev_unp, kUnp_val, kUnp_full, kU_some, ev_aug, kAug_val, kA_some, ev_app, kApp_val, kApp_own, kApp_full, ev_put, kPut_val, callF_eq, entE_nil, unds_succ, unds_zero, entE_cons, entS_int, entS_bool, entS_str, entS_none, entS_list, entS_tuple, kF_nx, kF_rt, kF_ex, frOf_val, frOf_own, frOf_full, ev_var, kVar_val, kVar_own, kVar_full, ev_c, ev_e2, k2_ok, okO_some, ev_e1, k1_ok, frz_val, frz_own, frz_full, frz_bor, frz_brf, dat_val, dat_bor, dat_brf, ev_evs0, ev_evs, kC_ok, ev_cb, kCB_ok, ev_call, kCall_ok, ev_cres, kRs_some, kRes_int, kRes_bool, kRes_str, kRes_none, kRes_list, kRes_tuple, kRes_false, kRes_exc, dats_nil, dats_cons, kD_some, isVal_val, isVal_bor, isVal_brf, ev_isa, kIsa_val, kIsa_own, kIsa_bor, kIsa_full, kIsa_brf, ev_and, kAnd_val, kAnd2_true, kAnd2_false, kAnd2_val, ev_or, kOr_val, kOr2_true, kOr2_false, kOr2_val, ev_not, kNot_val, ev_ife, kIfE_true, kIfE_false, ev_bof, kB_val, ev_tof, kTo_val, kTo_own, kTo_bor, kTo_full, kTo_brf, okB_some, truth_bool, truth_int, truth_none, truth_list, truth_tuple, ev_bnot, kNotB_ok, ev_band, kAndB_ok, kAndB2_true, kAndB2_false, kAndB2_ok, ev_bor, kOrB_ok, kOrB2_true, kOrB2_false, kOrB2_ok, ev_chain, kCh_ok, kCh2_false, kCh2_true, ev_fD, kD2_some, kS_int, kS_bool, kS_str, kS_none, ev_sub, ev_addI, ev_iadd, ev_div, ev_mod, ev_pow, ev_mulI, ev_neg, ev_eqI, ev_neI, ev_ltI, ev_leI, ev_gtI, ev_geI, ev_fD1, kD1_some, ev_int, ev_intb, ev_abs, ev_lenL, ev_lenT, ev_fI2, ev_catVV, ev_repV, ev_list, kLst_ok, ev_tup, kTup_ok, kMk_some, kMkT_some, stors_nil, stors_cons, kSt_some, stor_val, ev_ixL, ev_ixT, ev_ixB, atI_cast, atI_0, atI_1, atI_2, atI_3, atI_4, atI_5, atI_6, atI_7, ev_slice, kSl_val, kSl_own, kSl_bor, kSl_full, ev_pN, ev_pS, kP_int, ev_rev, ev_ls, ev_lsT, ev_tl, all_scal, ev_sorted, kSo_some, ev_iL, kIL_val, kIL_own, kIL_full, ev_iR, kR_1, kR_2, map_mkv_int, mkI_eq, rngI_eq, mkN_eq, ev_iR3, kR3_ok, rngC_eq, mkC_eq, ev_iM, kM_ok, kM2_some, mkEn_val, mkTp_val, ev_iZp, kZp_ok, mkZp_val, ev_lc, kLc_ok, kLcM_some, wipeE_nil, wipeE_cons, ev_byes, kE_val, kE_own, kE_full, kEl_some, kTl_some, ev_appAt, kAppAt_tuple, kAppAt_list, kAA_ok, ev_andI, ev_orI, ev_shr, ev_shl, List.getElem?_cons_zero, List.getElem?_cons_succ, List.set_cons_zero, List.set_cons_succ, List.all_nil, List.all_cons, Bool.and_true, Bool.true_and, Bool.or_true, Bool.true_or, Bool.or_false, Bool.false_or, Bool.and_false, Bool.false_and, Bool.not_true, Bool.not_false, Option.map_some, List.length_nil, List.length_cons, List.length_map, List.nil_append, List.map_cons, List.map_nil, scal_int, scal_bool, scal_str, scal_none, scal_list, scal_tuple, cd_true, cd_false, not_true_eq_false, not_false_eq_true, Nat.zero_le, and_self, true_and, and_true, ne_eq, not_false_eq_true, reduceIte, Nat.reduceLT, Nat.reduceLeDiff, Nat.reduceAdd, Nat.reduceMul, Nat.reduceSub, Nat.reduceEqDiff, Int.reduceLT, Int.reduceLE, Int.reduceAdd, Int.reduceSub, Int.reduceMul, Int.reduceNeg, Int.reduceToNat, Int.reduceEq, Int.reduceAbs, Int.reducePow, h6, h7, rngI_eq]
  refine forT_run (fun l ρ => ∃ a, l = List.range' a (row.length - a) ∧ a < p ∧ ρ = [.val false (.list (row.map .int)), .val true (.int row.length), .und]) (fun o => kF (kSeq o _) = _) ?_ ?_ _ _ ⟨0, ?_, p0, rfl⟩
  · rintro ρ ⟨a, e1, e3, rfl⟩
    have := range'_nil e1
    omega
  · rintro b l ρ ⟨a, e1, e3, rfl⟩
    obtain ⟨rfl, e4, e5⟩ := range'_cons e1
    have ap : (1 : Int) + (b : Int) = ((b + 1 : Nat) : Int) := by omega
    have q1 : (0 : Int) < ((b + 1 : Nat) : Int) := by omega
    have q2 : ((b + 1 : Nat) : Int) < 1073741824 := by omega
    have q3 : (row.length : Int) / ((b + 1 : Nat) : Int) = ((row.length / (b + 1) : Nat) : Int) := rfl
    have q4 : (row.length : Int) % ((b + 1 : Nat) : Int) = ((row.length % (b + 1) : Nat) : Int) := rfl
    have q6 : row.length / (b + 1) ≤ row.length := Nat.div_le_self _ _
    have q0 := Int.natCast_nonneg (row.length / (b + 1))
    have q5 : (-9223372036854775808 : Int) ≤ ((row.length / (b + 1) : Nat) : Int) := Int.le_trans (by decide) q0
    have q7 : ((row.length / (b + 1) : Nat) : Int) < 9223372036854775808 := by omega
    have q8 : ((row.map PyData.int).take (b + 1)).length * (row.length / (b + 1)) ≤ 16777216 := by
      rw [List.length_take, List.length_map, Nat.min_eq_left (by omega)]
      have := Nat.mul_div_le row.length (b + 1)
      omega
    have q9 : (List.replicate (row.length / (b + 1)) ((row.map PyData.int).take (b + 1))).flatten = (rep (row.length / (b + 1)) (row.take (b + 1))).map .int := by rw [← List.map_take, rep_map]
    by_cases hd : row.length % (b + 1) = 0
    · have hdI : ((row.length % (b + 1) : Nat) : Int) = 0 := by rw [hd]; rfl
      have iff := rep_iff (p := b + 1) h (by omega) (by omega) hd
      by_cases hr : rep (row.length / (b + 1)) (row.take (b + 1)) = row
      · have hq : cd (row = rep (row.length / (b + 1)) (row.take (b + 1))) = true := cd_true hr.symm
        right; right; left
        have e6 : b + 1 = p := Nat.le_antisymm (by omega) (hp.2 _ (iff.mp hr))
        simp only [B__law_round_simple_1, ev_seq, kSeq_nx, kSeq_rt, kSeq_bk, kSeq_ct, kSeq_ex, ev_nil, ev_pass, ev_break, ev_cont, ev_retn, ev_fg, fgt_nil, fgt_cons, ev_gh, kGh_some, ev_gfrz, kFrz_some, ev_gown, kOwn_full, kOwn_own, kOwn_val, ev_setZ, kSetZ_val, kSetZ_own, kSetZ_full, kSetZ_ex, ev_set, kSet_val, kSet_own, kSet_full, kSet_ex, ev_ret, kRet_val, kRet_own, kRet_full, kRet_ex, ev_retO, kRetO_own, kRetO_val, kRetO_full, ev_expr, kExpr_ok, kExpr_ex, ev_if, kIf_true, kIf_false, ev_for, kFor_ok, ev_while, ev_turn, kTurn1_some, kTurn_nx, kTurn_ct, kTurn_bk, kTurn_rt, kTurn_ex, ev_wturn, kW_true, kW_false, ev_gN, ev_gT, kT_some, itemsT_val, gSets_nil, gSets_val, mkv_int, mkv_bool, mkv_str, mkv_none, mkv_list, mkv_tuple, ev_unp, kUnp_val, kUnp_full, kU_some, ev_aug, kAug_val, kA_some, ev_app, kApp_val, kApp_own, kApp_full, ev_put, kPut_val, callF_eq, entE_nil, unds_succ, unds_zero, entE_cons, entS_int, entS_bool, entS_str, entS_none, entS_list, entS_tuple, kF_nx, kF_rt, kF_ex, frOf_val, frOf_own, frOf_full, ev_var, kVar_val, kVar_own, kVar_full, ev_c, ev_e2, k2_ok, okO_some, ev_e1, k1_ok, frz_val, frz_own, frz_full, frz_bor, frz_brf, dat_val, dat_bor, dat_brf, ev_evs0, ev_evs, kC_ok, ev_cb, kCB_ok, ev_call, kCall_ok, ev_cres, kRs_some, kRes_int, kRes_bool, kRes_str, kRes_none, kRes_list, kRes_tuple, kRes_false, kRes_exc, dats_nil, dats_cons, kD_some, isVal_val, isVal_bor, isVal_brf, ev_isa, kIsa_val, kIsa_own, kIsa_bor, kIsa_full, kIsa_brf, ev_and, kAnd_val, kAnd2_true, kAnd2_false, kAnd2_val, ev_or, kOr_val, kOr2_true, kOr2_false, kOr2_val, ev_not, kNot_val, ev_ife, kIfE_true, kIfE_false, ev_bof, kB_val, ev_tof, kTo_val, kTo_own, kTo_bor, kTo_full, kTo_brf, okB_some, truth_bool, truth_int, truth_none, truth_list, truth_tuple, ev_bnot, kNotB_ok, ev_band, kAndB_ok, kAndB2_true, kAndB2_false, kAndB2_ok, ev_bor, kOrB_ok, kOrB2_true, kOrB2_false, kOrB2_ok, ev_chain, kCh_ok, kCh2_false, kCh2_true, ev_fD, kD2_some, kS_int, kS_bool, kS_str, kS_none, ev_sub, ev_addI, ev_iadd, ev_div, ev_mod, ev_pow, ev_mulI, ev_neg, ev_eqI, ev_neI, ev_ltI, ev_leI, ev_gtI, ev_geI, ev_fD1, kD1_some, ev_int, ev_intb, ev_abs, ev_lenL, ev_lenT, ev_fI2, ev_catVV, ev_repV, ev_list, kLst_ok, ev_tup, kTup_ok, kMk_some, kMkT_some, stors_nil, stors_cons, kSt_some, stor_val, ev_ixL, ev_ixT, ev_ixB, atI_cast, atI_0, atI_1, atI_2, atI_3, atI_4, atI_5, atI_6, atI_7, ev_slice, kSl_val, kSl_own, kSl_bor, kSl_full, ev_pN, ev_pS, kP_int, ev_rev, ev_ls, ev_lsT, ev_tl, all_scal, ev_sorted, kSo_some, ev_iL, kIL_val, kIL_own, kIL_full, ev_iR, kR_1, kR_2, map_mkv_int, mkI_eq, rngI_eq, mkN_eq, ev_iR3, kR3_ok, rngC_eq, mkC_eq, ev_iM, kM_ok, kM2_some, mkEn_val, mkTp_val, ev_iZp, kZp_ok, mkZp_val, ev_lc, kLc_ok, kLcM_some, wipeE_nil, wipeE_cons, ev_byes, kE_val, kE_own, kE_full, kEl_some, kTl_some, ev_appAt, kAppAt_tuple, kAppAt_list, kAA_ok, ev_andI, ev_orI, ev_shr, ev_shl, List.getElem?_cons_zero, List.getElem?_cons_succ, List.set_cons_zero, List.set_cons_succ, List.all_nil, List.all_cons, Bool.and_true, Bool.true_and, Bool.or_true, Bool.true_or, Bool.or_false, Bool.false_or, Bool.and_false, Bool.false_and, Bool.not_true, Bool.not_false, Option.map_some, List.length_nil, List.length_cons, List.length_map, List.nil_append, List.map_cons, List.map_nil, scal_int, scal_bool, scal_str, scal_none, scal_list, scal_tuple, cd_true, cd_false, not_true_eq_false, not_false_eq_true, Nat.zero_le, and_self, true_and, and_true, ne_eq, not_false_eq_true, reduceIte, Nat.reduceLT, Nat.reduceLeDiff, Nat.reduceAdd, Nat.reduceMul, Nat.reduceSub, Nat.reduceEqDiff, Int.reduceLT, Int.reduceLE, Int.reduceAdd, Int.reduceSub, Int.reduceMul, Int.reduceNeg, Int.reduceToNat, Int.reduceEq, Int.reduceAbs, Int.reducePow, mkN_eq, ap, q1, q2, q3, q4, hdI, cutD_to, Int.toNat_natCast, q5, q7, q8, q9, all_scal, gEq_ints2, hq]
        refine ⟨_, rfl, ?_⟩
        simp only [ev_seq, kSeq_nx, kSeq_rt, kSeq_bk, kSeq_ct, kSeq_ex, ev_nil, ev_pass, ev_break, ev_cont, ev_retn, ev_fg, fgt_nil, fgt_cons, ev_gh, kGh_some, ev_gfrz, kFrz_some, ev_gown, kOwn_full, kOwn_own, kOwn_val, ev_setZ, kSetZ_val, kSetZ_own, kSetZ_full, kSetZ_ex, ev_set, kSet_val, kSet_own, kSet_full, kSet_ex, ev_ret, kRet_val, kRet_own, kRet_full, kRet_ex, ev_retO, kRetO_own, kRetO_val, kRetO_full, ev_expr, kExpr_ok, kExpr_ex, ev_if, kIf_true, kIf_false, ev_for, kFor_ok, ev_while, ev_turn, kTurn1_some, kTurn_nx, kTurn_ct, kTurn_bk, kTurn_rt, kTurn_ex, ev_wturn, kW_true, kW_false, ev_gN, ev_gT, kT_some, itemsT_val, gSets_nil, gSets_val, mkv_int, mkv_bool, mkv_str, mkv_none, mkv_list, mkv_tuple, ev_unp, kUnp_val, kUnp_full, kU_some, ev_aug, kAug_val, kA_some, ev_app, kApp_val, kApp_own, kApp_full, ev_put, kPut_val, callF_eq, entE_nil, unds_succ, unds_zero, entE_cons, entS_int, entS_bool, entS_str, entS_none, entS_list, entS_tuple, kF_nx, kF_rt, kF_ex, frOf_val, frOf_own, frOf_full, ev_var, kVar_val, kVar_own, kVar_full, ev_c, ev_e2, k2_ok, okO_some, ev_e1, k1_ok, frz_val, frz_own, frz_full, frz_bor, frz_brf, dat_val, dat_bor, dat_brf, ev_evs0, ev_evs, kC_ok, ev_cb, kCB_ok, ev_call, kCall_ok, ev_cres, kRs_some, kRes_int, kRes_bool, kRes_str, kRes_none, kRes_list, kRes_tuple, kRes_false, kRes_exc, dats_nil, dats_cons, kD_some, isVal_val, isVal_bor, isVal_brf, ev_isa, kIsa_val, kIsa_own, kIsa_bor, kIsa_full, kIsa_brf, ev_and, kAnd_val, kAnd2_true, kAnd2_false, kAnd2_val, ev_or, kOr_val, kOr2_true, kOr2_false, kOr2_val, ev_not, kNot_val, ev_ife, kIfE_true, kIfE_false, ev_bof, kB_val, ev_tof, kTo_val, kTo_own, kTo_bor, kTo_full, kTo_brf, okB_some, truth_bool, truth_int, truth_none, truth_list, truth_tuple, ev_bnot, kNotB_ok, ev_band, kAndB_ok, kAndB2_true, kAndB2_false, kAndB2_ok, ev_bor, kOrB_ok, kOrB2_true, kOrB2_false, kOrB2_ok, ev_chain, kCh_ok, kCh2_false, kCh2_true, ev_fD, kD2_some, kS_int, kS_bool, kS_str, kS_none, ev_sub, ev_addI, ev_iadd, ev_div, ev_mod, ev_pow, ev_mulI, ev_neg, ev_eqI, ev_neI, ev_ltI, ev_leI, ev_gtI, ev_geI, ev_fD1, kD1_some, ev_int, ev_intb, ev_abs, ev_lenL, ev_lenT, ev_fI2, ev_catVV, ev_repV, ev_list, kLst_ok, ev_tup, kTup_ok, kMk_some, kMkT_some, stors_nil, stors_cons, kSt_some, stor_val, ev_ixL, ev_ixT, ev_ixB, atI_cast, atI_0, atI_1, atI_2, atI_3, atI_4, atI_5, atI_6, atI_7, ev_slice, kSl_val, kSl_own, kSl_bor, kSl_full, ev_pN, ev_pS, kP_int, ev_rev, ev_ls, ev_lsT, ev_tl, all_scal, ev_sorted, kSo_some, ev_iL, kIL_val, kIL_own, kIL_full, ev_iR, kR_1, kR_2, map_mkv_int, mkI_eq, rngI_eq, mkN_eq, ev_iR3, kR3_ok, rngC_eq, mkC_eq, ev_iM, kM_ok, kM2_some, mkEn_val, mkTp_val, ev_iZp, kZp_ok, mkZp_val, ev_lc, kLc_ok, kLcM_some, wipeE_nil, wipeE_cons, ev_byes, kE_val, kE_own, kE_full, kEl_some, kTl_some, ev_appAt, kAppAt_tuple, kAppAt_list, kAA_ok, ev_andI, ev_orI, ev_shr, ev_shl, List.getElem?_cons_zero, List.getElem?_cons_succ, List.set_cons_zero, List.set_cons_succ, List.all_nil, List.all_cons, Bool.and_true, Bool.true_and, Bool.or_true, Bool.true_or, Bool.or_false, Bool.false_or, Bool.and_false, Bool.false_and, Bool.not_true, Bool.not_false, Option.map_some, List.length_nil, List.length_cons, List.length_map, List.nil_append, List.map_cons, List.map_nil, scal_int, scal_bool, scal_str, scal_none, scal_list, scal_tuple, cd_true, cd_false, not_true_eq_false, not_false_eq_true, Nat.zero_le, and_self, true_and, and_true, ne_eq, not_false_eq_true, reduceIte, Nat.reduceLT, Nat.reduceLeDiff, Nat.reduceAdd, Nat.reduceMul, Nat.reduceSub, Nat.reduceEqDiff, Int.reduceLT, Int.reduceLE, Int.reduceAdd, Int.reduceSub, Int.reduceMul, Int.reduceNeg, Int.reduceToNat, Int.reduceEq, Int.reduceAbs, Int.reducePow, e6]
        rw [List.map_take]
      · left
        have hq : cd (row = rep (row.length / (b + 1)) (row.take (b + 1))) = false := cd_false fun z => hr z.symm
        have e7 : b + 1 ≠ p := fun z => hr (iff.mpr (by rw [z]; exact hp.1))
        simp only [B__law_round_simple_1, ev_seq, kSeq_nx, kSeq_rt, kSeq_bk, kSeq_ct, kSeq_ex, ev_nil, ev_pass, ev_break, ev_cont, ev_retn, ev_fg, fgt_nil, fgt_cons, ev_gh, kGh_some, ev_gfrz, kFrz_some, ev_gown, kOwn_full, kOwn_own, kOwn_val, ev_setZ, kSetZ_val, kSetZ_own, kSetZ_full, kSetZ_ex, ev_set, kSet_val, kSet_own, kSet_full, kSet_ex, ev_ret, kRet_val, kRet_own, kRet_full, kRet_ex, ev_retO, kRetO_own, kRetO_val, kRetO_full, ev_expr, kExpr_ok, kExpr_ex, ev_if, kIf_true, kIf_false, ev_for, kFor_ok, ev_while, ev_turn, kTurn1_some, kTurn_nx, kTurn_ct, kTurn_bk, kTurn_rt, kTurn_ex, ev_wturn, kW_true, kW_false, ev_gN, ev_gT, kT_some, itemsT_val, gSets_nil, gSets_val, mkv_int, mkv_bool, mkv_str, mkv_none, mkv_list, mkv_tuple, ev_unp, kUnp_val, kUnp_full, kU_some, ev_aug, kAug_val, kA_some, ev_app, kApp_val, kApp_own, kApp_full, ev_put, kPut_val, callF_eq, entE_nil, unds_succ, unds_zero, entE_cons, entS_int, entS_bool, entS_str, entS_none, entS_list, entS_tuple, kF_nx, kF_rt, kF_ex, frOf_val, frOf_own, frOf_full, ev_var, kVar_val, kVar_own, kVar_full, ev_c, ev_e2, k2_ok, okO_some, ev_e1, k1_ok, frz_val, frz_own, frz_full, frz_bor, frz_brf, dat_val, dat_bor, dat_brf, ev_evs0, ev_evs, kC_ok, ev_cb, kCB_ok, ev_call, kCall_ok, ev_cres, kRs_some, kRes_int, kRes_bool, kRes_str, kRes_none, kRes_list, kRes_tuple, kRes_false, kRes_exc, dats_nil, dats_cons, kD_some, isVal_val, isVal_bor, isVal_brf, ev_isa, kIsa_val, kIsa_own, kIsa_bor, kIsa_full, kIsa_brf, ev_and, kAnd_val, kAnd2_true, kAnd2_false, kAnd2_val, ev_or, kOr_val, kOr2_true, kOr2_false, kOr2_val, ev_not, kNot_val, ev_ife, kIfE_true, kIfE_false, ev_bof, kB_val, ev_tof, kTo_val, kTo_own, kTo_bor, kTo_full, kTo_brf, okB_some, truth_bool, truth_int, truth_none, truth_list, truth_tuple, ev_bnot, kNotB_ok, ev_band, kAndB_ok, kAndB2_true, kAndB2_false, kAndB2_ok, ev_bor, kOrB_ok, kOrB2_true, kOrB2_false, kOrB2_ok, ev_chain, kCh_ok, kCh2_false, kCh2_true, ev_fD, kD2_some, kS_int, kS_bool, kS_str, kS_none, ev_sub, ev_addI, ev_iadd, ev_div, ev_mod, ev_pow, ev_mulI, ev_neg, ev_eqI, ev_neI, ev_ltI, ev_leI, ev_gtI, ev_geI, ev_fD1, kD1_some, ev_int, ev_intb, ev_abs, ev_lenL, ev_lenT, ev_fI2, ev_catVV, ev_repV, ev_list, kLst_ok, ev_tup, kTup_ok, kMk_some, kMkT_some, stors_nil, stors_cons, kSt_some, stor_val, ev_ixL, ev_ixT, ev_ixB, atI_cast, atI_0, atI_1, atI_2, atI_3, atI_4, atI_5, atI_6, atI_7, ev_slice, kSl_val, kSl_own, kSl_bor, kSl_full, ev_pN, ev_pS, kP_int, ev_rev, ev_ls, ev_lsT, ev_tl, all_scal, ev_sorted, kSo_some, ev_iL, kIL_val, kIL_own, kIL_full, ev_iR, kR_1, kR_2, map_mkv_int, mkI_eq, rngI_eq, mkN_eq, ev_iR3, kR3_ok, rngC_eq, mkC_eq, ev_iM, kM_ok, kM2_some, mkEn_val, mkTp_val, ev_iZp, kZp_ok, mkZp_val, ev_lc, kLc_ok, kLcM_some, wipeE_nil, wipeE_cons, ev_byes, kE_val, kE_own, kE_full, kEl_some, kTl_some, ev_appAt, kAppAt_tuple, kAppAt_list, kAA_ok, ev_andI, ev_orI, ev_shr, ev_shl, List.getElem?_cons_zero, List.getElem?_cons_succ, List.set_cons_zero, List.set_cons_succ, List.all_nil, List.all_cons, Bool.and_true, Bool.true_and, Bool.or_true, Bool.true_or, Bool.or_false, Bool.false_or, Bool.and_false, Bool.false_and, Bool.not_true, Bool.not_false, Option.map_some, List.length_nil, List.length_cons, List.length_map, List.nil_append, List.map_cons, List.map_nil, scal_int, scal_bool, scal_str, scal_none, scal_list, scal_tuple, cd_true, cd_false, not_true_eq_false, not_false_eq_true, Nat.zero_le, and_self, true_and, and_true, ne_eq, not_false_eq_true, reduceIte, Nat.reduceLT, Nat.reduceLeDiff, Nat.reduceAdd, Nat.reduceMul, Nat.reduceSub, Nat.reduceEqDiff, Int.reduceLT, Int.reduceLE, Int.reduceAdd, Int.reduceSub, Int.reduceMul, Int.reduceNeg, Int.reduceToNat, Int.reduceEq, Int.reduceAbs, Int.reducePow, mkN_eq, ap, q1, q2, q3, q4, hdI, cutD_to, Int.toNat_natCast, q5, q7, q8, q9, all_scal, gEq_ints2, hq]
        exact ⟨_, rfl, b + 1, e5, by omega, rfl⟩
    · left
      have e7 : b + 1 ≠ p := fun z => hd (by rw [z]; exact pd)
      have hdI : ¬ ((row.length % (b + 1) : Nat) : Int) = 0 := fun z => hd (by exact_mod_cast z)
      simp only [B__law_round_simple_1, ev_seq, kSeq_nx, kSeq_rt, kSeq_bk, kSeq_ct, kSeq_ex, ev_nil, ev_pass, ev_break, ev_cont, ev_retn, ev_fg, fgt_nil, fgt_cons, ev_gh, kGh_some, ev_gfrz, kFrz_some, ev_gown, kOwn_full, kOwn_own, kOwn_val, ev_setZ, kSetZ_val, kSetZ_own, kSetZ_full, kSetZ_ex, ev_set, kSet_val, kSet_own, kSet_full, kSet_ex, ev_ret, kRet_val, kRet_own, kRet_full, kRet_ex, ev_retO, kRetO_own, kRetO_val, kRetO_full, ev_expr, kExpr_ok, kExpr_ex, ev_if, kIf_true, kIf_false, ev_for, kFor_ok, ev_while, ev_turn, kTurn1_some, kTurn_nx, kTurn_ct, kTurn_bk, kTurn_rt, kTurn_ex, ev_wturn, kW_true, kW_false, ev_gN, ev_gT, kT_some, itemsT_val, gSets_nil, gSets_val, mkv_int, mkv_bool, mkv_str, mkv_none, mkv_list, mkv_tuple, ev_unp, kUnp_val, kUnp_full, kU_some, ev_aug, kAug_val, kA_some, ev_app, kApp_val, kApp_own, kApp_full, ev_put, kPut_val, callF_eq, entE_nil, unds_succ, unds_zero, entE_cons, entS_int, entS_bool, entS_str, entS_none, entS_list, entS_tuple, kF_nx, kF_rt, kF_ex, frOf_val, frOf_own, frOf_full, ev_var, kVar_val, kVar_own, kVar_full, ev_c, ev_e2, k2_ok, okO_some, ev_e1, k1_ok, frz_val, frz_own, frz_full, frz_bor, frz_brf, dat_val, dat_bor, dat_brf, ev_evs0, ev_evs, kC_ok, ev_cb, kCB_ok, ev_call, kCall_ok, ev_cres, kRs_some, kRes_int, kRes_bool, kRes_str, kRes_none, kRes_list, kRes_tuple, kRes_false, kRes_exc, dats_nil, dats_cons, kD_some, isVal_val, isVal_bor, isVal_brf, ev_isa, kIsa_val, kIsa_own, kIsa_bor, kIsa_full, kIsa_brf, ev_and, kAnd_val, kAnd2_true, kAnd2_false, kAnd2_val, ev_or, kOr_val, kOr2_true, kOr2_false, kOr2_val, ev_not, kNot_val, ev_ife, kIfE_true, kIfE_false, ev_bof, kB_val, ev_tof, kTo_val, kTo_own, kTo_bor, kTo_full, kTo_brf, okB_some, truth_bool, truth_int, truth_none, truth_list, truth_tuple, ev_bnot, kNotB_ok, ev_band, kAndB_ok, kAndB2_true, kAndB2_false, kAndB2_ok, ev_bor, kOrB_ok, kOrB2_true, kOrB2_false, kOrB2_ok, ev_chain, kCh_ok, kCh2_false, kCh2_true, ev_fD, kD2_some, kS_int, kS_bool, kS_str, kS_none, ev_sub, ev_addI, ev_iadd, ev_div, ev_mod, ev_pow, ev_mulI, ev_neg, ev_eqI, ev_neI, ev_ltI, ev_leI, ev_gtI, ev_geI, ev_fD1, kD1_some, ev_int, ev_intb, ev_abs, ev_lenL, ev_lenT, ev_fI2, ev_catVV, ev_repV, ev_list, kLst_ok, ev_tup, kTup_ok, kMk_some, kMkT_some, stors_nil, stors_cons, kSt_some, stor_val, ev_ixL, ev_ixT, ev_ixB, atI_cast, atI_0, atI_1, atI_2, atI_3, atI_4, atI_5, atI_6, atI_7, ev_slice, kSl_val, kSl_own, kSl_bor, kSl_full, ev_pN, ev_pS, kP_int, ev_rev, ev_ls, ev_lsT, ev_tl, all_scal, ev_sorted, kSo_some, ev_iL, kIL_val, kIL_own, kIL_full, ev_iR, kR_1, kR_2, map_mkv_int, mkI_eq, rngI_eq, mkN_eq, ev_iR3, kR3_ok, rngC_eq, mkC_eq, ev_iM, kM_ok, kM2_some, mkEn_val, mkTp_val, ev_iZp, kZp_ok, mkZp_val, ev_lc, kLc_ok, kLcM_some, wipeE_nil, wipeE_cons, ev_byes, kE_val, kE_own, kE_full, kEl_some, kTl_some, ev_appAt, kAppAt_tuple, kAppAt_list, kAA_ok, ev_andI, ev_orI, ev_shr, ev_shl, List.getElem?_cons_zero, List.getElem?_cons_succ, List.set_cons_zero, List.set_cons_succ, List.all_nil, List.all_cons, Bool.and_true, Bool.true_and, Bool.or_true, Bool.true_or, Bool.or_false, Bool.false_or, Bool.and_false, Bool.false_and, Bool.not_true, Bool.not_false, Option.map_some, List.length_nil, List.length_cons, List.length_map, List.nil_append, List.map_cons, List.map_nil, scal_int, scal_bool, scal_str, scal_none, scal_list, scal_tuple, cd_true, cd_false, not_true_eq_false, not_false_eq_true, Nat.zero_le, and_self, true_and, and_true, ne_eq, not_false_eq_true, reduceIte, Nat.reduceLT, Nat.reduceLeDiff, Nat.reduceAdd, Nat.reduceMul, Nat.reduceSub, Nat.reduceEqDiff, Int.reduceLT, Int.reduceLE, Int.reduceAdd, Int.reduceSub, Int.reduceMul, Int.reduceNeg, Int.reduceToNat, Int.reduceEq, Int.reduceAbs, Int.reducePow, mkN_eq, ap, q1, q2, q3, q4, hdI]
      exact ⟨_, rfl, b + 1, e5, by omega, rfl⟩
  · rw [List.range_eq_range']
    congr 1
    omega
theorem simple_rep {m : Nat} {row : List Int} (hm : 0 < m) (h : row ≠ []) {p q : Nat} (hp : Least (rc row) p) (hq : Least (rc (rep m row)) q) (hl : p ≤ row.length) : (rep m row).take q = row.take p := by
  have e : rc (rep m row) = rc row := funext fun i => rc_rep hm h i
  rw [e] at hq
  have := hp.eq hq
  subst this
  match m, hm with
  | m + 1, _ => rw [rep_succ, List.take_append_of_le_length hl]
theorem simple_idem {row : List Int} (h : row ≠ []) {p q : Nat} (hp : Least (rc row) p) (hl : p ≤ row.length) (hq : Least (rc (row.take p)) q) : (row.take p).take q = row.take p := by
  have e : rc (row.take p) = rc row := funext fun i => rc_take h hp.1 hl i
  rw [e] at hq
  have := hp.eq hq
  subst this
  rw [List.take_take, Nat.min_self]
theorem round_len (s : Nat) (o : Int) (w : Nat) (t row : List Int) : (roundL s o w t row).length = row.length := by
  unfold roundL; rw [List.length_map, List.length_range]
theorem round_in {s w : Nat} {o : Int} {t row : List Int} (hs : 0 < s) (h : ∀ c ∈ t, 0 ≤ c ∧ c < (s : Int)) : ∀ c ∈ roundL s o w t row, 0 ≤ c ∧ c < (s : Int) := fun c hc => by
  unfold roundL at hc
  obtain ⟨k, -, rfl⟩ := List.mem_map.mp hc
  exact newC_in hs h _
theorem rwin_congr {a b : List Int} {p q : Int} (w : Nat) (h : ∀ j : Nat, rc a (p + j) = rc b (q + j)) : rwin a p w = rwin b q w := by
  unfold rwin
  exact List.map_congr_left fun j _ => h j
/-- the image's cell at each place -/
theorem rc_round {s w : Nat} {o : Int} {t row : List Int} (h : row ≠ []) (p : Int) : rc (roundL s o w t row) p = newC s t (rwin row (p + o) w) := by
  have hr : roundL s o w t row ≠ [] := fun z => by
    have := congrArg List.length z
    rw [round_len] at this
    exact h (List.length_eq_zero_iff.mp this)
  obtain ⟨m, h1, h2, h3⟩ := mod_at hr p
  rw [round_len] at h1 h2
  have e := rc_eq hr p
  rw [round_len, h1, Int.toNat_natCast] at e
  have e2 : (roundL s o w t row)[m]? = some (newC s t (rwin row ((m : Int) + o) w)) := by
    unfold roundL
    rw [List.getElem?_map, List.getElem?_eq_getElem (by rw [List.length_range]; exact h2), List.getElem_range]
    rfl
  rw [Option.some.inj (e.symm.trans e2)]
  congr 1
  refine rwin_congr w fun j => ?_
  have d := Int.mul_ediv_add_emod p row.length
  rw [h1] at d
  rw [show p + o + (j : Int) = (m : Int) + o + j + p / row.length * row.length by rw [Int.mul_comm]; omega, rc_add_len]
theorem round_rep {s w : Nat} {o : Int} {t row : List Int} {m : Nat} (hm : 0 < m) (h : row ≠ []) : roundL s o w t (rep m row) = rep m (roundL s o w t row) := by
  have hr : roundL s o w t row ≠ [] := fun z => by
    have := congrArg List.length z
    rw [round_len] at this
    exact h (List.length_eq_zero_iff.mp this)
  refine rc_ext (by rw [round_len, rep_len, rep_len, round_len]) fun p => ?_
  rw [rc_rep hm hr, rc_round (rep_ne hm h), rc_round h]
  congr 1
  exact rwin_congr w fun j => rc_rep hm h _

end
end PF

namespace PF
open PySem PySem.Spec PyProof.Rows L2 PL
noncomputable section
/-! spread rows -/
abbrev spD (b st : Int) (cs : List Int) : PyData := .tuple [.int b, .int st, .list (cs.map .int)]
/-- the cell at each place -/
def sc (b st : Int) (cs : List Int) (p : Int) : Int := if st ≤ p ∧ p < st + cs.length then cs.getD (p - st).toNat 0 else b
theorem sc_in {b st : Int} {cs : List Int} {P : Int → Prop} (hb : P b) (h : ∀ c ∈ cs, P c) (p : Int) : P (sc b st cs p) := by
  unfold sc
  split
  · rename_i hp
    have : (p - st).toNat < cs.length := by omega
    rw [List.getD_eq_getElem?_getD, List.getElem?_eq_getElem this]
    exact h _ (List.getElem_mem this)
  · exact hb
theorem sc_at {b st : Int} {cs : List Int} {i : Nat} (h : i < cs.length) : sc b st cs (st + i) = cs[i] := by
  unfold sc
  rw [if_pos (by omega), show (st + (i : Int) - st).toNat = i by omega, List.getD_eq_getElem?_getD, List.getElem?_eq_getElem h]; rfl
theorem sc_out {b st : Int} {cs : List Int} {p : Int} (h : ¬ (st ≤ p ∧ p < st + cs.length)) : sc b st cs p = b := by unfold sc; rw [if_neg h]
/-- in simple form -/
def Simp (b st : Int) (cs : List Int) : Prop := (cs = [] ∧ st = 0) ∨ ∃ h : cs ≠ [], cs.head h ≠ b ∧ cs.getLast h ≠ b
theorem simp_start {b st st' : Int} {cs cs' : List Int} (h : ∃ h : cs ≠ [], cs.head h ≠ b ∧ cs.getLast h ≠ b) (h' : ∃ h : cs' ≠ [], cs'.head h ≠ b ∧ cs'.getLast h ≠ b) (e : ∀ p, sc b st cs p = sc b st' cs' p) : st' ≤ st ∧ st + cs.length ≤ st' + cs'.length := by
  obtain ⟨n, h1, h2⟩ := h
  have l0 : 0 < cs.length := List.length_pos_iff.mpr n
  constructor
  · rcases Int.lt_or_le st st' with z | z
    · exfalso
      have e1 := e (st + (0 : Nat))
      rw [sc_at l0, sc_out (by omega)] at e1
      rw [List.head_eq_getElem] at h1
      exact h1 e1
    · exact z
  · rcases Int.lt_or_le (st' + cs'.length) (st + cs.length) with z | z
    · exfalso
      have l1 : cs.length - 1 < cs.length := by omega
      have e1 := e (st + ((cs.length - 1 : Nat) : Int))
      rw [sc_at l1, sc_out (by omega)] at e1
      rw [List.getLast_eq_getElem] at h2
      exact h2 e1
    · exact z
theorem simp_ne {b st st' : Int} {cs : List Int} (h : ∃ h : cs ≠ [], cs.head h ≠ b ∧ cs.getLast h ≠ b) (e : ∀ p, sc b st cs p = sc b st' [] p) : False := by
  obtain ⟨n, h1, h2⟩ := h
  have l0 : 0 < cs.length := List.length_pos_iff.mpr n
  have e1 := e (st + (0 : Nat))
  rw [sc_at l0, sc_out (by simp only [List.length_nil]; omega)] at e1
  rw [List.head_eq_getElem] at h1
  exact h1 e1
/-- a row has one simple form -/
theorem simp_unique {b st st' : Int} {cs cs' : List Int} (h : Simp b st cs) (h' : Simp b st' cs') (e : ∀ p, sc b st cs p = sc b st' cs' p) : st = st' ∧ cs = cs' := by
  rcases h with ⟨h1, h2⟩ | h
  · rcases h' with ⟨h3, h4⟩ | h'
    · rw [h1, h2, h3, h4]; exact ⟨rfl, rfl⟩
    · rw [h1] at e
      exact (simp_ne h' fun p => (e p).symm).elim
  · rcases h' with ⟨h3, h4⟩ | h'
    · rw [h3] at e
      exact (simp_ne h e).elim
    · have a1 := simp_start h h' e
      have a2 := simp_start h' h fun p => (e p).symm
      have es : st = st' := by omega
      subst es
      refine ⟨rfl, List.ext_getElem (by omega) fun i i1 i2 => ?_⟩
      have := e (st + (i : Nat))
      rwa [sc_at i1, sc_at i2] at this
/-- cut at both ends -/
theorem cut_simp {b st : Int} {cs : List Int} {f l : Nat} (hf : ∀ j, j < f → cs[j]? = some b) (hl : ∀ j, l ≤ j → j < cs.length → cs[j]? = some b) (fl : f < l) (ll : l ≤ cs.length) (h1 : cs[f]? ≠ some b) (h2 : cs[l - 1]? ≠ some b) :
    Simp b (st + f) ((cs.drop f).take (l - f)) ∧ ∀ p, sc b (st + f) ((cs.drop f).take (l - f)) p = sc b st cs p := by
  have len : ((cs.drop f).take (l - f)).length = l - f := by rw [List.length_take, List.length_drop]; omega
  have at' : ∀ i, i < l - f → ((cs.drop f).take (l - f))[i]? = cs[f + i]? := fun i hi => by
    rw [List.getElem?_take_of_lt hi, List.getElem?_drop]
  have n : (cs.drop f).take (l - f) ≠ [] := fun z => by
    have := congrArg List.length z
    rw [len, List.length_nil] at this
    omega
  refine ⟨.inr ⟨n, ?_, ?_⟩, fun p => ?_⟩
  · rw [List.head_eq_getElem]
    intro z
    have := at' 0 (by omega)
    rw [List.getElem?_eq_getElem (by omega), z, Nat.add_zero] at this
    exact h1 this.symm
  · rw [List.getLast_eq_getElem]
    intro z
    have := at' (l - f - 1) (by omega)
    rw [List.getElem?_eq_getElem (by omega)] at this
    have e : ((cs.drop f).take (l - f))[l - f - 1]'(by omega) = b := by
      rw [← z]; congr 1; omega
    rw [e, show f + (l - f - 1) = l - 1 by omega] at this
    exact h2 this.symm
  · by_cases hp : st ≤ p ∧ p < st + cs.length
    · obtain ⟨i, hi⟩ : ∃ i : Nat, p = st + i := ⟨(p - st).toNat, by omega⟩
      subst hi
      have il : i < cs.length := by omega
      rw [sc_at il]
      by_cases h3 : f ≤ i
      · by_cases h4 : i < l
        · have i2 : i - f < ((cs.drop f).take (l - f)).length := by omega
          have := at' (i - f) (by omega)
          rw [List.getElem?_eq_getElem i2, show f + (i - f) = i by omega, List.getElem?_eq_getElem il] at this
          rw [show st + (i : Int) = st + f + ((i - f : Nat) : Int) by omega, sc_at i2]
          exact Option.some.inj this
        · rw [sc_out (by omega)]
          have := hl i (by omega) il
          rw [List.getElem?_eq_getElem il] at this
          exact (Option.some.inj this).symm
      · rw [sc_out (by omega)]
        have := hf i (by omega)
        rw [List.getElem?_eq_getElem il] at this
        exact (Option.some.inj this).symm
    · rw [sc_out hp, sc_out (by omega)]
theorem all_simp {b st : Int} {cs : List Int} {f : Nat} (hf : ∀ j, j < f → cs[j]? = some b) (hl : ∀ j, f ≤ j → j < cs.length → cs[j]? = some b) : Simp b 0 [] ∧ ∀ p, sc b 0 [] p = sc b st cs p := by
  refine ⟨.inl ⟨rfl, rfl⟩, fun p => ?_⟩
  rw [sc_out (by simp only [List.length_nil]; omega)]
  by_cases hp : st ≤ p ∧ p < st + cs.length
  · obtain ⟨i, hi⟩ : ∃ i : Nat, p = st + i := ⟨(p - st).toNat, by omega⟩
    subst hi
    have il : i < cs.length := by omega
    rw [sc_at il]
    have : cs[i]? = some b := by
      rcases Nat.lt_or_ge i f with z | z
      · exact hf i z
      · exact hl i z il
    rw [List.getElem?_eq_getElem il] at this
    exact (Option.some.inj this).symm
  · rw [sc_out hp]
/-- what both functions promise -/
def SimpOf (b st : Int) (cs : List Int) (r : Option FR) : Prop := ∃ st' cs', r = some (.ret true (spD b st' cs')) ∧ Simp b st' cs' ∧ (∀ p, sc b st' cs' p = sc b st cs p) ∧ (∀ c ∈ cs', c ∈ cs) ∧ cs'.length ≤ cs.length
theorem simp_end {b st : Int} {cs : List Int} {f l : Nat} {r : Option FR} (hf : ∀ j, j < f → cs[j]? = some b) (hl : ∀ j, l ≤ j → j < cs.length → cs[j]? = some b) (fl : f ≤ l) (ll : l ≤ cs.length) (h1 : f < l → cs[f]? ≠ some b) (h2 : f < l → cs[l - 1]? ≠ some b)
    (re : r = some (.ret true (if f = l then spD b 0 [] else spD b (st + f) ((cs.drop f).take (l - f))))) : SimpOf b st cs r := by
  by_cases e : f = l
  · rw [if_pos e] at re
    subst e
    obtain ⟨a1, a2⟩ := all_simp (st := st) hf hl
    exact ⟨0, [], re, a1, a2, fun c hc => (by cases hc), Nat.zero_le _⟩
  · rw [if_neg e] at re
    obtain ⟨a1, a2⟩ := cut_simp (st := st) hf hl (by omega) ll (h1 (by omega)) (h2 (by omega))
    exact ⟨_, _, re, a1, a2, fun c hc => List.mem_of_mem_drop (List.mem_of_mem_take hc), by rw [List.length_take, List.length_drop]; omega⟩
theorem get_int {xs : List Int} {i : Nat} (h : i < xs.length) : (xs.map PyData.int)[i]? = some (.int xs[i]) := at_mem h
def B_spread_simple_1 : SF := (sAug 4 (gI cT (· + ·)) (eC (.int 1)))
def T_spread_simple_2 : BF := (bAnd (bOf (e2 (fD gLt) (eVar 4) (eCB (fD1 gLen) [(eVar 3)]))) (bOf (e2 (fD gEq) (e2 fIx (eVar 3) (eVar 4)) (eVar 1))))
def T_spread_simple_3 : BF := (bAnd (bOf (e2 (fD gGt) (eVar 5) (eVar 4))) (bOf (e2 (fD gEq) (e2 fIx (eVar 3) (e2 (fD gSub) (eVar 5) (eC (.int 1)))) (eVar 1))))
def F_spread_simple : SF := (sSeq (sUnp [1, 2, 3] (eVar 0))
  (sSeq (sSetZ 4 (eC (.int 0)))
  (sSeq (sWhileD [] PF.T_spread_simple_2
  PF.B_spread_simple_1)
  (sSeq (sSetZ 5 (eCB (fD1 gLen) [(eVar 3)]))
  (sSeq (sWhileD [] PF.T_spread_simple_3
  (sAug 5 gSub (eC (.int 1))))
  (sSeq (sIf (bOf (e2 (fD gEq) (eVar 4) (eVar 5)))
  (sRet (eTup [(eVar 1), (eC (.int 0)), (eList [])]))
  sNil)
  (sRet (eTup [(eVar 1), (e2 fAdd (eVar 2) (eVar 4)), (eSl (eVar 3) (pS (eVar 4)) (pS (eVar 5)))]))))))))
def f_spread_simple : FN := callF 6 F_spread_simple
abbrev ss2 (b st : Int) (cs : List Int) (f l : Nat) : Ev := [.val false (spD b st cs), .val true (.int b), .val true (.int st), .val false (.list (cs.map .int)), .val true (.int f), .val true (.int l)]
theorem spread_simple_2 {b st : Int} {cs : List Int} {f : Nat} {g : SF} (hl : cs.length < 16777216) (f1 : f ≤ cs.length) (f2 : ∀ j, j < f → cs[j]? = some b) (f3 : f < cs.length → cs[f]? ≠ some b)
    (hg : ∀ l : Nat, f ≤ l → l ≤ cs.length → kF (g (ss2 b st cs f l)) = some (.ret true (if f = l then spD b 0 [] else spD b (st + f) ((cs.drop f).take (l - f))))) :
    SimpOf b st cs (kF (kSeq (whileT (wturn [] T_spread_simple_3 (sAug 5 gSub (eC (.int 1)))) fuel (ss2 b st cs f cs.length)) g)) := by
  refine whileT_run (fun l ρ => f ≤ l ∧ l ≤ cs.length ∧ (∀ j, l ≤ j → j < cs.length → cs[j]? = some b) ∧ ρ = ss2 b st cs f l) (fun o => SimpOf b st cs (kF (kSeq o g))) ?_ fuel cs.length _ (by unfold fuel; omega) ⟨f1, Nat.le_refl _, fun j h1 h2 => absurd h1 (by omega), rfl⟩
  · rintro l ρ ⟨l1, l2, l3, rfl⟩
    by_cases h1 : (f : Int) < (l : Nat)
    · have hl1 : l - 1 < cs.length := by omega
      have e1 : ((l : Nat) : Int) - 1 = ((l - 1 : Nat) : Int) := by omega
      by_cases h2 : cs[l - 1] = b
      · left
        simp only [ss2, T_spread_simple_3, ev_seq, kSeq_nx, kSeq_rt, kSeq_bk, kSeq_ct, kSeq_ex, ev_nil, ev_pass, ev_break, ev_cont, ev_retn, ev_fg, fgt_nil, fgt_cons, ev_gh, kGh_some, ev_gfrz, kFrz_some, ev_gown, kOwn_full, kOwn_own, kOwn_val, ev_setZ, kSetZ_val, kSetZ_own, kSetZ_full, kSetZ_ex, ev_set, kSet_val, kSet_own, kSet_full, kSet_ex, ev_ret, kRet_val, kRet_own, kRet_full, kRet_ex, ev_retO, kRetO_own, kRetO_val, kRetO_full, ev_expr, kExpr_ok, kExpr_ex, ev_if, kIf_true, kIf_false, ev_for, kFor_ok, ev_while, ev_turn, kTurn1_some, kTurn_nx, kTurn_ct, kTurn_bk, kTurn_rt, kTurn_ex, ev_wturn, kW_true, kW_false, ev_gN, ev_gT, kT_some, itemsT_val, gSets_nil, gSets_val, mkv_int, mkv_bool, mkv_str, mkv_none, mkv_list, mkv_tuple, ev_unp, kUnp_val, kUnp_full, kU_some, ev_aug, kAug_val, kA_some, ev_app, kApp_val, kApp_own, kApp_full, ev_put, kPut_val, callF_eq, entE_nil, unds_succ, unds_zero, entE_cons, entS_int, entS_bool, entS_str, entS_none, entS_list, entS_tuple, kF_nx, kF_rt, kF_ex, frOf_val, frOf_own, frOf_full, ev_var, kVar_val, kVar_own, kVar_full, ev_c, ev_e2, k2_ok, okO_some, ev_e1, k1_ok, frz_val, frz_own, frz_full, frz_bor, frz_brf, dat_val, dat_bor, dat_brf, ev_evs0, ev_evs, kC_ok, ev_cb, kCB_ok, ev_call, kCall_ok, ev_cres, kRs_some, kRes_int, kRes_bool, kRes_str, kRes_none, kRes_list, kRes_tuple, kRes_false, kRes_exc, dats_nil, dats_cons, kD_some, isVal_val, isVal_bor, isVal_brf, ev_isa, kIsa_val, kIsa_own, kIsa_bor, kIsa_full, kIsa_brf, ev_and, kAnd_val, kAnd2_true, kAnd2_false, kAnd2_val, ev_or, kOr_val, kOr2_true, kOr2_false, kOr2_val, ev_not, kNot_val, ev_ife, kIfE_true, kIfE_false, ev_bof, kB_val, ev_tof, kTo_val, kTo_own, kTo_bor, kTo_full, kTo_brf, okB_some, truth_bool, truth_int, truth_none, truth_list, truth_tuple, ev_bnot, kNotB_ok, ev_band, kAndB_ok, kAndB2_true, kAndB2_false, kAndB2_ok, ev_bor, kOrB_ok, kOrB2_true, kOrB2_false, kOrB2_ok, ev_chain, kCh_ok, kCh2_false, kCh2_true, ev_fD, kD2_some, kS_int, kS_bool, kS_str, kS_none, ev_sub, ev_addI, ev_iadd, ev_div, ev_mod, ev_pow, ev_mulI, ev_neg, ev_eqI, ev_neI, ev_ltI, ev_leI, ev_gtI, ev_geI, ev_fD1, kD1_some, ev_int, ev_intb, ev_abs, ev_lenL, ev_lenT, ev_fI2, ev_catVV, ev_repV, ev_list, kLst_ok, ev_tup, kTup_ok, kMk_some, kMkT_some, stors_nil, stors_cons, kSt_some, stor_val, ev_ixL, ev_ixT, ev_ixB, atI_cast, atI_0, atI_1, atI_2, atI_3, atI_4, atI_5, atI_6, atI_7, ev_slice, kSl_val, kSl_own, kSl_bor, kSl_full, ev_pN, ev_pS, kP_int, ev_rev, ev_ls, ev_lsT, ev_tl, all_scal, ev_sorted, kSo_some, ev_iL, kIL_val, kIL_own, kIL_full, ev_iR, kR_1, kR_2, map_mkv_int, mkI_eq, rngI_eq, mkN_eq, ev_iR3, kR3_ok, rngC_eq, mkC_eq, ev_iM, kM_ok, kM2_some, mkEn_val, mkTp_val, ev_iZp, kZp_ok, mkZp_val, ev_lc, kLc_ok, kLcM_some, wipeE_nil, wipeE_cons, ev_byes, kE_val, kE_own, kE_full, kEl_some, kTl_some, ev_appAt, kAppAt_tuple, kAppAt_list, kAA_ok, ev_andI, ev_orI, ev_shr, ev_shl, List.getElem?_cons_zero, List.getElem?_cons_succ, List.set_cons_zero, List.set_cons_succ, List.all_nil, List.all_cons, Bool.and_true, Bool.true_and, Bool.or_true, Bool.true_or, Bool.or_false, Bool.false_or, Bool.and_false, Bool.false_and, Bool.not_true, Bool.not_false, Option.map_some, List.length_nil, List.length_cons, List.length_map, List.nil_append, List.map_cons, List.map_nil, scal_int, scal_bool, scal_str, scal_none, scal_list, scal_tuple, cd_true, cd_false, not_true_eq_false, not_false_eq_true, Nat.zero_le, and_self, true_and, and_true, ne_eq, not_false_eq_true, reduceIte, Nat.reduceLT, Nat.reduceLeDiff, Nat.reduceAdd, Nat.reduceMul, Nat.reduceSub, Nat.reduceEqDiff, Int.reduceLT, Int.reduceLE, Int.reduceAdd, Int.reduceSub, Int.reduceMul, Int.reduceNeg, Int.reduceToNat, Int.reduceEq, Int.reduceAbs, Int.reducePow, h1, e1, atI_cast, get_int hl1, h2]
        refine ⟨_, l - 1, by omega, rfl, by omega, by omega, fun j hj1 hj2 => ?_, rfl⟩
        rcases Nat.lt_or_ge j l with z | z
        · rw [show j = l - 1 by omega, List.getElem?_eq_getElem hl1, h2]
        · exact l3 j z hj2
      · right; left
        simp only [ss2, T_spread_simple_3, ev_seq, kSeq_nx, kSeq_rt, kSeq_bk, kSeq_ct, kSeq_ex, ev_nil, ev_pass, ev_break, ev_cont, ev_retn, ev_fg, fgt_nil, fgt_cons, ev_gh, kGh_some, ev_gfrz, kFrz_some, ev_gown, kOwn_full, kOwn_own, kOwn_val, ev_setZ, kSetZ_val, kSetZ_own, kSetZ_full, kSetZ_ex, ev_set, kSet_val, kSet_own, kSet_full, kSet_ex, ev_ret, kRet_val, kRet_own, kRet_full, kRet_ex, ev_retO, kRetO_own, kRetO_val, kRetO_full, ev_expr, kExpr_ok, kExpr_ex, ev_if, kIf_true, kIf_false, ev_for, kFor_ok, ev_while, ev_turn, kTurn1_some, kTurn_nx, kTurn_ct, kTurn_bk, kTurn_rt, kTurn_ex, ev_wturn, kW_true, kW_false, ev_gN, ev_gT, kT_some, itemsT_val, gSets_nil, gSets_val, mkv_int, mkv_bool, mkv_str, mkv_none, mkv_list, mkv_tuple, ev_unp, kUnp_val, kUnp_full, kU_some, ev_aug, kAug_val, kA_some, ev_app, kApp_val, kApp_own, kApp_full, ev_put, kPut_val, callF_eq, entE_nil, unds_succ, unds_zero, entE_cons, entS_int, entS_bool, entS_str, entS_none, entS_list, entS_tuple, kF_nx, kF_rt, kF_ex, frOf_val, frOf_own, frOf_full, ev_var, kVar_val, kVar_own, kVar_full, ev_c, ev_e2, k2_ok, okO_some, ev_e1, k1_ok, frz_val, frz_own, frz_full, frz_bor, frz_brf, dat_val, dat_bor, dat_brf, ev_evs0, ev_evs, kC_ok, ev_cb, kCB_ok, ev_call, kCall_ok, ev_cres, kRs_some, kRes_int, kRes_bool, kRes_str, kRes_none, kRes_list, kRes_tuple, kRes_false, kRes_exc, dats_nil, dats_cons, kD_some, isVal_val, isVal_bor, isVal_brf, ev_isa, kIsa_val, kIsa_own, kIsa_bor, kIsa_full, kIsa_brf, ev_and, kAnd_val, kAnd2_true, kAnd2_false, kAnd2_val, ev_or, kOr_val, kOr2_true, kOr2_false, kOr2_val, ev_not, kNot_val, ev_ife, kIfE_true, kIfE_false, ev_bof, kB_val, ev_tof, kTo_val, kTo_own, kTo_bor, kTo_full, kTo_brf, okB_some, truth_bool, truth_int, truth_none, truth_list, truth_tuple, ev_bnot, kNotB_ok, ev_band, kAndB_ok, kAndB2_true, kAndB2_false, kAndB2_ok, ev_bor, kOrB_ok, kOrB2_true, kOrB2_false, kOrB2_ok, ev_chain, kCh_ok, kCh2_false, kCh2_true, ev_fD, kD2_some, kS_int, kS_bool, kS_str, kS_none, ev_sub, ev_addI, ev_iadd, ev_div, ev_mod, ev_pow, ev_mulI, ev_neg, ev_eqI, ev_neI, ev_ltI, ev_leI, ev_gtI, ev_geI, ev_fD1, kD1_some, ev_int, ev_intb, ev_abs, ev_lenL, ev_lenT, ev_fI2, ev_catVV, ev_repV, ev_list, kLst_ok, ev_tup, kTup_ok, kMk_some, kMkT_some, stors_nil, stors_cons, kSt_some, stor_val, ev_ixL, ev_ixT, ev_ixB, atI_cast, atI_0, atI_1, atI_2, atI_3, atI_4, atI_5, atI_6, atI_7, ev_slice, kSl_val, kSl_own, kSl_bor, kSl_full, ev_pN, ev_pS, kP_int, ev_rev, ev_ls, ev_lsT, ev_tl, all_scal, ev_sorted, kSo_some, ev_iL, kIL_val, kIL_own, kIL_full, ev_iR, kR_1, kR_2, map_mkv_int, mkI_eq, rngI_eq, mkN_eq, ev_iR3, kR3_ok, rngC_eq, mkC_eq, ev_iM, kM_ok, kM2_some, mkEn_val, mkTp_val, ev_iZp, kZp_ok, mkZp_val, ev_lc, kLc_ok, kLcM_some, wipeE_nil, wipeE_cons, ev_byes, kE_val, kE_own, kE_full, kEl_some, kTl_some, ev_appAt, kAppAt_tuple, kAppAt_list, kAA_ok, ev_andI, ev_orI, ev_shr, ev_shl, List.getElem?_cons_zero, List.getElem?_cons_succ, List.set_cons_zero, List.set_cons_succ, List.all_nil, List.all_cons, Bool.and_true, Bool.true_and, Bool.or_true, Bool.true_or, Bool.or_false, Bool.false_or, Bool.and_false, Bool.false_and, Bool.not_true, Bool.not_false, Option.map_some, List.length_nil, List.length_cons, List.length_map, List.nil_append, List.map_cons, List.map_nil, scal_int, scal_bool, scal_str, scal_none, scal_list, scal_tuple, cd_true, cd_false, not_true_eq_false, not_false_eq_true, Nat.zero_le, and_self, true_and, and_true, ne_eq, not_false_eq_true, reduceIte, Nat.reduceLT, Nat.reduceLeDiff, Nat.reduceAdd, Nat.reduceMul, Nat.reduceSub, Nat.reduceEqDiff, Int.reduceLT, Int.reduceLE, Int.reduceAdd, Int.reduceSub, Int.reduceMul, Int.reduceNeg, Int.reduceToNat, Int.reduceEq, Int.reduceAbs, Int.reducePow, h1, e1, atI_cast, get_int hl1, h2]
        refine ⟨_, rfl, ?_⟩
        refine simp_end f2 l3 l1 l2 (fun z => f3 (by omega)) (fun z => ?_) (hg l l1 l2)
        rw [List.getElem?_eq_getElem hl1]
        exact fun y => h2 (Option.some.inj y)
    · right; left
      simp only [ss2, T_spread_simple_3, ev_seq, kSeq_nx, kSeq_rt, kSeq_bk, kSeq_ct, kSeq_ex, ev_nil, ev_pass, ev_break, ev_cont, ev_retn, ev_fg, fgt_nil, fgt_cons, ev_gh, kGh_some, ev_gfrz, kFrz_some, ev_gown, kOwn_full, kOwn_own, kOwn_val, ev_setZ, kSetZ_val, kSetZ_own, kSetZ_full, kSetZ_ex, ev_set, kSet_val, kSet_own, kSet_full, kSet_ex, ev_ret, kRet_val, kRet_own, kRet_full, kRet_ex, ev_retO, kRetO_own, kRetO_val, kRetO_full, ev_expr, kExpr_ok, kExpr_ex, ev_if, kIf_true, kIf_false, ev_for, kFor_ok, ev_while, ev_turn, kTurn1_some, kTurn_nx, kTurn_ct, kTurn_bk, kTurn_rt, kTurn_ex, ev_wturn, kW_true, kW_false, ev_gN, ev_gT, kT_some, itemsT_val, gSets_nil, gSets_val, mkv_int, mkv_bool, mkv_str, mkv_none, mkv_list, mkv_tuple, ev_unp, kUnp_val, kUnp_full, kU_some, ev_aug, kAug_val, kA_some, ev_app, kApp_val, kApp_own, kApp_full, ev_put, kPut_val, callF_eq, entE_nil, unds_succ, unds_zero, entE_cons, entS_int, entS_bool, entS_str, entS_none, entS_list, entS_tuple, kF_nx, kF_rt, kF_ex, frOf_val, frOf_own, frOf_full, ev_var, kVar_val, kVar_own, kVar_full, ev_c, ev_e2, k2_ok, okO_some, ev_e1, k1_ok, frz_val, frz_own, frz_full, frz_bor, frz_brf, dat_val, dat_bor, dat_brf, ev_evs0, ev_evs, kC_ok, ev_cb, kCB_ok, ev_call, kCall_ok, ev_cres, kRs_some, kRes_int, kRes_bool, kRes_str, kRes_none, kRes_list, kRes_tuple, kRes_false, kRes_exc, dats_nil, dats_cons, kD_some, isVal_val, isVal_bor, isVal_brf, ev_isa, kIsa_val, kIsa_own, kIsa_bor, kIsa_full, kIsa_brf, ev_and, kAnd_val, kAnd2_true, kAnd2_false, kAnd2_val, ev_or, kOr_val, kOr2_true, kOr2_false, kOr2_val, ev_not, kNot_val, ev_ife, kIfE_true, kIfE_false, ev_bof, kB_val, ev_tof, kTo_val, kTo_own, kTo_bor, kTo_full, kTo_brf, okB_some, truth_bool, truth_int, truth_none, truth_list, truth_tuple, ev_bnot, kNotB_ok, ev_band, kAndB_ok, kAndB2_true, kAndB2_false, kAndB2_ok, ev_bor, kOrB_ok, kOrB2_true, kOrB2_false, kOrB2_ok, ev_chain, kCh_ok, kCh2_false, kCh2_true, ev_fD, kD2_some, kS_int, kS_bool, kS_str, kS_none, ev_sub, ev_addI, ev_iadd, ev_div, ev_mod, ev_pow, ev_mulI, ev_neg, ev_eqI, ev_neI, ev_ltI, ev_leI, ev_gtI, ev_geI, ev_fD1, kD1_some, ev_int, ev_intb, ev_abs, ev_lenL, ev_lenT, ev_fI2, ev_catVV, ev_repV, ev_list, kLst_ok, ev_tup, kTup_ok, kMk_some, kMkT_some, stors_nil, stors_cons, kSt_some, stor_val, ev_ixL, ev_ixT, ev_ixB, atI_cast, atI_0, atI_1, atI_2, atI_3, atI_4, atI_5, atI_6, atI_7, ev_slice, kSl_val, kSl_own, kSl_bor, kSl_full, ev_pN, ev_pS, kP_int, ev_rev, ev_ls, ev_lsT, ev_tl, all_scal, ev_sorted, kSo_some, ev_iL, kIL_val, kIL_own, kIL_full, ev_iR, kR_1, kR_2, map_mkv_int, mkI_eq, rngI_eq, mkN_eq, ev_iR3, kR3_ok, rngC_eq, mkC_eq, ev_iM, kM_ok, kM2_some, mkEn_val, mkTp_val, ev_iZp, kZp_ok, mkZp_val, ev_lc, kLc_ok, kLcM_some, wipeE_nil, wipeE_cons, ev_byes, kE_val, kE_own, kE_full, kEl_some, kTl_some, ev_appAt, kAppAt_tuple, kAppAt_list, kAA_ok, ev_andI, ev_orI, ev_shr, ev_shl, List.getElem?_cons_zero, List.getElem?_cons_succ, List.set_cons_zero, List.set_cons_succ, List.all_nil, List.all_cons, Bool.and_true, Bool.true_and, Bool.or_true, Bool.true_or, Bool.or_false, Bool.false_or, Bool.and_false, Bool.false_and, Bool.not_true, Bool.not_false, Option.map_some, List.length_nil, List.length_cons, List.length_map, List.nil_append, List.map_cons, List.map_nil, scal_int, scal_bool, scal_str, scal_none, scal_list, scal_tuple, cd_true, cd_false, not_true_eq_false, not_false_eq_true, Nat.zero_le, and_self, true_and, and_true, ne_eq, not_false_eq_true, reduceIte, Nat.reduceLT, Nat.reduceLeDiff, Nat.reduceAdd, Nat.reduceMul, Nat.reduceSub, Nat.reduceEqDiff, Int.reduceLT, Int.reduceLE, Int.reduceAdd, Int.reduceSub, Int.reduceMul, Int.reduceNeg, Int.reduceToNat, Int.reduceEq, Int.reduceAbs, Int.reducePow, h1]
      exact ⟨_, rfl, simp_end f2 l3 l1 l2 (fun z => absurd z (by omega)) (fun z => absurd z (by omega)) (hg l l1 l2)⟩
theorem spread_simple_ok {b st : Int} {cs : List Int} (hl : cs.length < 16777216) : SimpOf b st cs (f_spread_simple [spD b st cs]) := by
  have fin : ∀ f l : Nat, f ≤ l → l ≤ cs.length → kF (sSeq (sIf (bOf (e2 (fD gEq) (eVar 4) (eVar 5)))
  (sRet (eTup [(eVar 1), (eC (.int 0)), (eList [])]))
  sNil)
  (sRet (eTup [(eVar 1), (e2 fAdd (eVar 2) (eVar 4)), (eSl (eVar 3) (pS (eVar 4)) (pS (eVar 5)))])) (ss2 b st cs f l)) = some (.ret true (if f = l then spD b 0 [] else spD b (st + f) ((cs.drop f).take (l - f)))) := fun f l f1 l1 => by
    by_cases e : f = l
    · subst e
      simp only [ss2, ev_seq, kSeq_nx, kSeq_rt, kSeq_bk, kSeq_ct, kSeq_ex, ev_nil, ev_pass, ev_break, ev_cont, ev_retn, ev_fg, fgt_nil, fgt_cons, ev_gh, kGh_some, ev_gfrz, kFrz_some, ev_gown, kOwn_full, kOwn_own, kOwn_val, ev_setZ, kSetZ_val, kSetZ_own, kSetZ_full, kSetZ_ex, ev_set, kSet_val, kSet_own, kSet_full, kSet_ex, ev_ret, kRet_val, kRet_own, kRet_full, kRet_ex, ev_retO, kRetO_own, kRetO_val, kRetO_full, ev_expr, kExpr_ok, kExpr_ex, ev_if, kIf_true, kIf_false, ev_for, kFor_ok, ev_while, ev_turn, kTurn1_some, kTurn_nx, kTurn_ct, kTurn_bk, kTurn_rt, kTurn_ex, ev_wturn, kW_true, kW_false, ev_gN, ev_gT, kT_some, itemsT_val, gSets_nil, gSets_val, mkv_int, mkv_bool, mkv_str, mkv_none, mkv_list, mkv_tuple, ev_unp, kUnp_val, kUnp_full, kU_some, ev_aug, kAug_val, kA_some, ev_app, kApp_val, kApp_own, kApp_full, ev_put, kPut_val, callF_eq, entE_nil, unds_succ, unds_zero, entE_cons, entS_int, entS_bool, entS_str, entS_none, entS_list, entS_tuple, kF_nx, kF_rt, kF_ex, frOf_val, frOf_own, frOf_full, ev_var, kVar_val, kVar_own, kVar_full, ev_c, ev_e2, k2_ok, okO_some, ev_e1, k1_ok, frz_val, frz_own, frz_full, frz_bor, frz_brf, dat_val, dat_bor, dat_brf, ev_evs0, ev_evs, kC_ok, ev_cb, kCB_ok, ev_call, kCall_ok, ev_cres, kRs_some, kRes_int, kRes_bool, kRes_str, kRes_none, kRes_list, kRes_tuple, kRes_false, kRes_exc, dats_nil, dats_cons, kD_some, isVal_val, isVal_bor, isVal_brf, ev_isa, kIsa_val, kIsa_own, kIsa_bor, kIsa_full, kIsa_brf, ev_and, kAnd_val, kAnd2_true, kAnd2_false, kAnd2_val, ev_or, kOr_val, kOr2_true, kOr2_false, kOr2_val, ev_not, kNot_val, ev_ife, kIfE_true, kIfE_false, ev_bof, kB_val, ev_tof, kTo_val, kTo_own, kTo_bor, kTo_full, kTo_brf, okB_some, truth_bool, truth_int, truth_none, truth_list, truth_tuple, ev_bnot, kNotB_ok, ev_band, kAndB_ok, kAndB2_true, kAndB2_false, kAndB2_ok, ev_bor, kOrB_ok, kOrB2_true, kOrB2_false, kOrB2_ok, ev_chain, kCh_ok, kCh2_false, kCh2_true, ev_fD, kD2_some, kS_int, kS_bool, kS_str, kS_none, ev_sub, ev_addI, ev_iadd, ev_div, ev_mod, ev_pow, ev_mulI, ev_neg, ev_eqI, ev_neI, ev_ltI, ev_leI, ev_gtI, ev_geI, ev_fD1, kD1_some, ev_int, ev_intb, ev_abs, ev_lenL, ev_lenT, ev_fI2, ev_catVV, ev_repV, ev_list, kLst_ok, ev_tup, kTup_ok, kMk_some, kMkT_some, stors_nil, stors_cons, kSt_some, stor_val, ev_ixL, ev_ixT, ev_ixB, atI_cast, atI_0, atI_1, atI_2, atI_3, atI_4, atI_5, atI_6, atI_7, ev_slice, kSl_val, kSl_own, kSl_bor, kSl_full, ev_pN, ev_pS, kP_int, ev_rev, ev_ls, ev_lsT, ev_tl, all_scal, ev_sorted, kSo_some, ev_iL, kIL_val, kIL_own, kIL_full, ev_iR, kR_1, kR_2, map_mkv_int, mkI_eq, rngI_eq, mkN_eq, ev_iR3, kR3_ok, rngC_eq, mkC_eq, ev_iM, kM_ok, kM2_some, mkEn_val, mkTp_val, ev_iZp, kZp_ok, mkZp_val, ev_lc, kLc_ok, kLcM_some, wipeE_nil, wipeE_cons, ev_byes, kE_val, kE_own, kE_full, kEl_some, kTl_some, ev_appAt, kAppAt_tuple, kAppAt_list, kAA_ok, ev_andI, ev_orI, ev_shr, ev_shl, List.getElem?_cons_zero, List.getElem?_cons_succ, List.set_cons_zero, List.set_cons_succ, List.all_nil, List.all_cons, Bool.and_true, Bool.true_and, Bool.or_true, Bool.true_or, Bool.or_false, Bool.false_or, Bool.and_false, Bool.false_and, Bool.not_true, Bool.not_false, Option.map_some, List.length_nil, List.length_cons, List.length_map, List.nil_append, List.map_cons, List.map_nil, scal_int, scal_bool, scal_str, scal_none, scal_list, scal_tuple, cd_true, cd_false, not_true_eq_false, not_false_eq_true, Nat.zero_le, and_self, true_and, and_true, ne_eq, not_false_eq_true, reduceIte, Nat.reduceLT, Nat.reduceLeDiff, Nat.reduceAdd, Nat.reduceMul, Nat.reduceSub, Nat.reduceEqDiff, Int.reduceLT, Int.reduceLE, Int.reduceAdd, Int.reduceSub, Int.reduceMul, Int.reduceNeg, Int.reduceToNat, Int.reduceEq, Int.reduceAbs, Int.reducePow, if_true]
      rfl
    · have e' : ¬ ((f : Nat) : Int) = (l : Nat) := fun z => e (by exact_mod_cast z)
      simp only [ss2, ev_seq, kSeq_nx, kSeq_rt, kSeq_bk, kSeq_ct, kSeq_ex, ev_nil, ev_pass, ev_break, ev_cont, ev_retn, ev_fg, fgt_nil, fgt_cons, ev_gh, kGh_some, ev_gfrz, kFrz_some, ev_gown, kOwn_full, kOwn_own, kOwn_val, ev_setZ, kSetZ_val, kSetZ_own, kSetZ_full, kSetZ_ex, ev_set, kSet_val, kSet_own, kSet_full, kSet_ex, ev_ret, kRet_val, kRet_own, kRet_full, kRet_ex, ev_retO, kRetO_own, kRetO_val, kRetO_full, ev_expr, kExpr_ok, kExpr_ex, ev_if, kIf_true, kIf_false, ev_for, kFor_ok, ev_while, ev_turn, kTurn1_some, kTurn_nx, kTurn_ct, kTurn_bk, kTurn_rt, kTurn_ex, ev_wturn, kW_true, kW_false, ev_gN, ev_gT, kT_some, itemsT_val, gSets_nil, gSets_val, mkv_int, mkv_bool, mkv_str, mkv_none, mkv_list, mkv_tuple, ev_unp, kUnp_val, kUnp_full, kU_some, ev_aug, kAug_val, kA_some, ev_app, kApp_val, kApp_own, kApp_full, ev_put, kPut_val, callF_eq, entE_nil, unds_succ, unds_zero, entE_cons, entS_int, entS_bool, entS_str, entS_none, entS_list, entS_tuple, kF_nx, kF_rt, kF_ex, frOf_val, frOf_own, frOf_full, ev_var, kVar_val, kVar_own, kVar_full, ev_c, ev_e2, k2_ok, okO_some, ev_e1, k1_ok, frz_val, frz_own, frz_full, frz_bor, frz_brf, dat_val, dat_bor, dat_brf, ev_evs0, ev_evs, kC_ok, ev_cb, kCB_ok, ev_call, kCall_ok, ev_cres, kRs_some, kRes_int, kRes_bool, kRes_str, kRes_none, kRes_list, kRes_tuple, kRes_false, kRes_exc, dats_nil, dats_cons, kD_some, isVal_val, isVal_bor, isVal_brf, ev_isa, kIsa_val, kIsa_own, kIsa_bor, kIsa_full, kIsa_brf, ev_and, kAnd_val, kAnd2_true, kAnd2_false, kAnd2_val, ev_or, kOr_val, kOr2_true, kOr2_false, kOr2_val, ev_not, kNot_val, ev_ife, kIfE_true, kIfE_false, ev_bof, kB_val, ev_tof, kTo_val, kTo_own, kTo_bor, kTo_full, kTo_brf, okB_some, truth_bool, truth_int, truth_none, truth_list, truth_tuple, ev_bnot, kNotB_ok, ev_band, kAndB_ok, kAndB2_true, kAndB2_false, kAndB2_ok, ev_bor, kOrB_ok, kOrB2_true, kOrB2_false, kOrB2_ok, ev_chain, kCh_ok, kCh2_false, kCh2_true, ev_fD, kD2_some, kS_int, kS_bool, kS_str, kS_none, ev_sub, ev_addI, ev_iadd, ev_div, ev_mod, ev_pow, ev_mulI, ev_neg, ev_eqI, ev_neI, ev_ltI, ev_leI, ev_gtI, ev_geI, ev_fD1, kD1_some, ev_int, ev_intb, ev_abs, ev_lenL, ev_lenT, ev_fI2, ev_catVV, ev_repV, ev_list, kLst_ok, ev_tup, kTup_ok, kMk_some, kMkT_some, stors_nil, stors_cons, kSt_some, stor_val, ev_ixL, ev_ixT, ev_ixB, atI_cast, atI_0, atI_1, atI_2, atI_3, atI_4, atI_5, atI_6, atI_7, ev_slice, kSl_val, kSl_own, kSl_bor, kSl_full, ev_pN, ev_pS, kP_int, ev_rev, ev_ls, ev_lsT, ev_tl, all_scal, ev_sorted, kSo_some, ev_iL, kIL_val, kIL_own, kIL_full, ev_iR, kR_1, kR_2, map_mkv_int, mkI_eq, rngI_eq, mkN_eq, ev_iR3, kR3_ok, rngC_eq, mkC_eq, ev_iM, kM_ok, kM2_some, mkEn_val, mkTp_val, ev_iZp, kZp_ok, mkZp_val, ev_lc, kLc_ok, kLcM_some, wipeE_nil, wipeE_cons, ev_byes, kE_val, kE_own, kE_full, kEl_some, kTl_some, ev_appAt, kAppAt_tuple, kAppAt_list, kAA_ok, ev_andI, ev_orI, ev_shr, ev_shl, List.getElem?_cons_zero, List.getElem?_cons_succ, List.set_cons_zero, List.set_cons_succ, List.all_nil, List.all_cons, Bool.and_true, Bool.true_and, Bool.or_true, Bool.true_or, Bool.or_false, Bool.false_or, Bool.and_false, Bool.false_and, Bool.not_true, Bool.not_false, Option.map_some, List.length_nil, List.length_cons, List.length_map, List.nil_append, List.map_cons, List.map_nil, scal_int, scal_bool, scal_str, scal_none, scal_list, scal_tuple, cd_true, cd_false, not_true_eq_false, not_false_eq_true, Nat.zero_le, and_self, true_and, and_true, ne_eq, not_false_eq_true, reduceIte, Nat.reduceLT, Nat.reduceLeDiff, Nat.reduceAdd, Nat.reduceMul, Nat.reduceSub, Nat.reduceEqDiff, Int.reduceLT, Int.reduceLE, Int.reduceAdd, Int.reduceSub, Int.reduceMul, Int.reduceNeg, Int.reduceToNat, Int.reduceEq, Int.reduceAbs, Int.reducePow, e', cutD_nat, all_scal, if_neg e]
      rw [← List.map_drop, ← List.map_take]
  simp only [f_spread_simple, F_spread_simple, ev_seq, kSeq_nx, kSeq_rt, kSeq_bk, kSeq_ct, kSeq_ex, ev_nil, ev_pass, ev_break, ev_cont, ev_retn, ev_fg, fgt_nil, fgt_cons, ev_gh, kGh_some, ev_gfrz, kFrz_some, ev_gown, kOwn_full, kOwn_own, kOwn_val, ev_setZ, kSetZ_val, kSetZ_own, kSetZ_full, kSetZ_ex, ev_set, kSet_val, kSet_own, kSet_full, kSet_ex, ev_ret, kRet_val, kRet_own, kRet_full, kRet_ex, ev_retO, kRetO_own, kRetO_val, kRetO_full, ev_expr, kExpr_ok, kExpr_ex, ev_if, kIf_true, kIf_false, ev_for, kFor_ok, ev_while, ev_turn, kTurn1_some, kTurn_nx, kTurn_ct, kTurn_bk, kTurn_rt, kTurn_ex, ev_wturn, kW_true, kW_false, ev_gN, ev_gT, kT_some, itemsT_val, gSets_nil, gSets_val, mkv_int, mkv_bool, mkv_str, mkv_none, mkv_list, mkv_tuple, ev_unp, kUnp_val, kUnp_full, kU_some, ev_aug, kAug_val, kA_some, ev_app, kApp_val, kApp_own, kApp_full, ev_put, kPut_val, callF_eq, entE_nil, unds_succ, unds_zero, entE_cons, entS_int, entS_bool, entS_str, entS_none, entS_list, entS_tuple, kF_nx, kF_rt, kF_ex, frOf_val, frOf_own, frOf_full, ev_var, kVar_val, kVar_own, kVar_full, ev_c, ev_e2, k2_ok, okO_some, ev_e1, k1_ok, frz_val, frz_own, frz_full, frz_bor, frz_brf, dat_val, dat_bor, dat_brf, ev_evs0, ev_evs, kC_ok, ev_cb, kCB_ok, ev_call, kCall_ok, ev_cres, kRs_some, kRes_int, kRes_bool, kRes_str, kRes_none, kRes_list, kRes_tuple, kRes_false, kRes_exc, dats_nil, dats_cons, kD_some, isVal_val, isVal_bor, isVal_brf, ev_isa, kIsa_val, kIsa_own, kIsa_bor, kIsa_full, kIsa_brf, ev_and, kAnd_val, kAnd2_true, kAnd2_false, kAnd2_val, ev_or, kOr_val, kOr2_true, kOr2_false, kOr2_val, ev_not, kNot_val, ev_ife, kIfE_true, kIfE_false, ev_bof, kB_val, ev_tof, kTo_val, kTo_own, kTo_bor, kTo_full, kTo_brf, okB_some, truth_bool, truth_int, truth_none, truth_list, truth_tuple, ev_bnot, kNotB_ok, ev_band, kAndB_ok, kAndB2_true, kAndB2_false, kAndB2_ok, ev_bor, kOrB_ok, kOrB2_true, kOrB2_false, kOrB2_ok, ev_chain, kCh_ok, kCh2_false, kCh2_true, ev_fD, kD2_some, kS_int, kS_bool, kS_str, kS_none, ev_sub, ev_addI, ev_iadd, ev_div, ev_mod, ev_pow, ev_mulI, ev_neg, ev_eqI, ev_neI, ev_ltI, ev_leI, ev_gtI, ev_geI, ev_fD1, kD1_some, ev_int, ev_intb, ev_abs, ev_lenL, ev_lenT, ev_fI2, ev_catVV, ev_repV, ev_list, kLst_ok, ev_tup, kTup_ok, kMk_some, kMkT_some, stors_nil, stors_cons, kSt_some, stor_val, ev_ixL, ev_ixT, ev_ixB, atI_cast, atI_0, atI_1, atI_2, atI_3, atI_4, atI_5, atI_6, atI_7, ev_slice, kSl_val, kSl_own, kSl_bor, kSl_full, ev_pN, ev_pS, kP_int, ev_rev, ev_ls, ev_lsT, ev_tl, all_scal, ev_sorted, kSo_some, ev_iL, kIL_val, kIL_own, kIL_full, ev_iR, kR_1, kR_2, map_mkv_int, mkI_eq, rngI_eq, mkN_eq, ev_iR3, kR3_ok, rngC_eq, mkC_eq, ev_iM, kM_ok, kM2_some, mkEn_val, mkTp_val, ev_iZp, kZp_ok, mkZp_val, ev_lc, kLc_ok, kLcM_some, wipeE_nil, wipeE_cons, ev_byes, kE_val, kE_own, kE_full, kEl_some, kTl_some, ev_appAt, kAppAt_tuple, kAppAt_list, kAA_ok, ev_andI, ev_orI, ev_shr, ev_shl, List.getElem?_cons_zero, List.getElem?_cons_succ, List.set_cons_zero, List.set_cons_succ, List.all_nil, List.all_cons, Bool.and_true, Bool.true_and, Bool.or_true, Bool.true_or, Bool.or_false, Bool.false_or, Bool.and_false, Bool.false_and, Bool.not_true, Bool.not_false, Option.map_some, List.length_nil, List.length_cons, List.length_map, List.nil_append, List.map_cons, List.map_nil, scal_int, scal_bool, scal_str, scal_none, scal_list, scal_tuple, cd_true, cd_false, not_true_eq_false, not_false_eq_true, Nat.zero_le, and_self, true_and, and_true, ne_eq, not_false_eq_true, reduceIte, Nat.reduceLT, Nat.reduceLeDiff, Nat.reduceAdd, Nat.reduceMul, Nat.reduceSub, Nat.reduceEqDiff, Int.reduceLT, Int.reduceLE, Int.reduceAdd, Int.reduceSub, Int.reduceMul, Int.reduceNeg, Int.reduceToNat, Int.reduceEq, Int.reduceAbs, Int.reducePow]
  refine whileT_run (fun m ρ => ∃ f : Nat, f ≤ cs.length ∧ m = cs.length - f ∧ (∀ j, j < f → cs[j]? = some b) ∧ ρ = [.val false (spD b st cs), .val true (.int b), .val true (.int st), .val false (.list (cs.map .int)), .val true (.int f), .und]) (fun o => SimpOf b st cs (kF (kSeq o _))) ?_ fuel (cs.length - 0) _ (by unfold fuel; omega) ⟨0, Nat.zero_le _, rfl, fun j hj => absurd hj (Nat.not_lt_zero j), rfl⟩
  · rintro m ρ ⟨f, f1, rfl, f2, rfl⟩
    by_cases h1 : (f : Int) < (cs.length : Nat)
    · have hf : f < cs.length := by omega
      by_cases h2 : cs[f] = b
      · left
        simp only [T_spread_simple_2, B_spread_simple_1, ev_seq, kSeq_nx, kSeq_rt, kSeq_bk, kSeq_ct, kSeq_ex, ev_nil, ev_pass, ev_break, ev_cont, ev_retn, ev_fg, fgt_nil, fgt_cons, ev_gh, kGh_some, ev_gfrz, kFrz_some, ev_gown, kOwn_full, kOwn_own, kOwn_val, ev_setZ, kSetZ_val, kSetZ_own, kSetZ_full, kSetZ_ex, ev_set, kSet_val, kSet_own, kSet_full, kSet_ex, ev_ret, kRet_val, kRet_own, kRet_full, kRet_ex, ev_retO, kRetO_own, kRetO_val, kRetO_full, ev_expr, kExpr_ok, kExpr_ex, ev_if, kIf_true, kIf_false, ev_for, kFor_ok, ev_while, ev_turn, kTurn1_some, kTurn_nx, kTurn_ct, kTurn_bk, kTurn_rt, kTurn_ex, ev_wturn, kW_true, kW_false, ev_gN, ev_gT, kT_some, itemsT_val, gSets_nil, gSets_val, mkv_int, mkv_bool, mkv_str, mkv_none, mkv_list, mkv_tuple, ev_unp, kUnp_val, kUnp_full, kU_some, ev_aug, kAug_val, kA_some, ev_app, kApp_val, kApp_own, kApp_full, ev_put, kPut_val, callF_eq, entE_nil, unds_succ, unds_zero, entE_cons, entS_int, entS_bool, entS_str, entS_none, entS_list, entS_tuple, kF_nx, kF_rt, kF_ex, frOf_val, frOf_own, frOf_full, ev_var, kVar_val, kVar_own, kVar_full, ev_c, ev_e2, k2_ok, okO_some, ev_e1, k1_ok, frz_val, frz_own, frz_full, frz_bor, frz_brf, dat_val, dat_bor, dat_brf, ev_evs0, ev_evs, kC_ok, ev_cb, kCB_ok, ev_call, kCall_ok, ev_cres, kRs_some, kRes_int, kRes_bool, kRes_str, kRes_none, kRes_list, kRes_tuple, kRes_false, kRes_exc, dats_nil, dats_cons, kD_some, isVal_val, isVal_bor, isVal_brf, ev_isa, kIsa_val, kIsa_own, kIsa_bor, kIsa_full, kIsa_brf, ev_and, kAnd_val, kAnd2_true, kAnd2_false, kAnd2_val, ev_or, kOr_val, kOr2_true, kOr2_false, kOr2_val, ev_not, kNot_val, ev_ife, kIfE_true, kIfE_false, ev_bof, kB_val, ev_tof, kTo_val, kTo_own, kTo_bor, kTo_full, kTo_brf, okB_some, truth_bool, truth_int, truth_none, truth_list, truth_tuple, ev_bnot, kNotB_ok, ev_band, kAndB_ok, kAndB2_true, kAndB2_false, kAndB2_ok, ev_bor, kOrB_ok, kOrB2_true, kOrB2_false, kOrB2_ok, ev_chain, kCh_ok, kCh2_false, kCh2_true, ev_fD, kD2_some, kS_int, kS_bool, kS_str, kS_none, ev_sub, ev_addI, ev_iadd, ev_div, ev_mod, ev_pow, ev_mulI, ev_neg, ev_eqI, ev_neI, ev_ltI, ev_leI, ev_gtI, ev_geI, ev_fD1, kD1_some, ev_int, ev_intb, ev_abs, ev_lenL, ev_lenT, ev_fI2, ev_catVV, ev_repV, ev_list, kLst_ok, ev_tup, kTup_ok, kMk_some, kMkT_some, stors_nil, stors_cons, kSt_some, stor_val, ev_ixL, ev_ixT, ev_ixB, atI_cast, atI_0, atI_1, atI_2, atI_3, atI_4, atI_5, atI_6, atI_7, ev_slice, kSl_val, kSl_own, kSl_bor, kSl_full, ev_pN, ev_pS, kP_int, ev_rev, ev_ls, ev_lsT, ev_tl, all_scal, ev_sorted, kSo_some, ev_iL, kIL_val, kIL_own, kIL_full, ev_iR, kR_1, kR_2, map_mkv_int, mkI_eq, rngI_eq, mkN_eq, ev_iR3, kR3_ok, rngC_eq, mkC_eq, ev_iM, kM_ok, kM2_some, mkEn_val, mkTp_val, ev_iZp, kZp_ok, mkZp_val, ev_lc, kLc_ok, kLcM_some, wipeE_nil, wipeE_cons, ev_byes, kE_val, kE_own, kE_full, kEl_some, kTl_some, ev_appAt, kAppAt_tuple, kAppAt_list, kAA_ok, ev_andI, ev_orI, ev_shr, ev_shl, List.getElem?_cons_zero, List.getElem?_cons_succ, List.set_cons_zero, List.set_cons_succ, List.all_nil, List.all_cons, Bool.and_true, Bool.true_and, Bool.or_true, Bool.true_or, Bool.or_false, Bool.false_or, Bool.and_false, Bool.false_and, Bool.not_true, Bool.not_false, Option.map_some, List.length_nil, List.length_cons, List.length_map, List.nil_append, List.map_cons, List.map_nil, scal_int, scal_bool, scal_str, scal_none, scal_list, scal_tuple, cd_true, cd_false, not_true_eq_false, not_false_eq_true, Nat.zero_le, and_self, true_and, and_true, ne_eq, not_false_eq_true, reduceIte, Nat.reduceLT, Nat.reduceLeDiff, Nat.reduceAdd, Nat.reduceMul, Nat.reduceSub, Nat.reduceEqDiff, Int.reduceLT, Int.reduceLE, Int.reduceAdd, Int.reduceSub, Int.reduceMul, Int.reduceNeg, Int.reduceToNat, Int.reduceEq, Int.reduceAbs, Int.reducePow, h1, atI_cast, get_int hf, h2]
        refine ⟨_, cs.length - (f + 1), by omega, rfl, f + 1, by omega, rfl, fun j hj => ?_, by rw [show ((f : Int) + 1) = ((f + 1 : Nat) : Int) by omega]⟩
        rcases Nat.lt_or_ge j f with z | z
        · exact f2 j z
        · rw [show j = f by omega, List.getElem?_eq_getElem hf, h2]
      · right; left
        simp only [T_spread_simple_2, ev_seq, kSeq_nx, kSeq_rt, kSeq_bk, kSeq_ct, kSeq_ex, ev_nil, ev_pass, ev_break, ev_cont, ev_retn, ev_fg, fgt_nil, fgt_cons, ev_gh, kGh_some, ev_gfrz, kFrz_some, ev_gown, kOwn_full, kOwn_own, kOwn_val, ev_setZ, kSetZ_val, kSetZ_own, kSetZ_full, kSetZ_ex, ev_set, kSet_val, kSet_own, kSet_full, kSet_ex, ev_ret, kRet_val, kRet_own, kRet_full, kRet_ex, ev_retO, kRetO_own, kRetO_val, kRetO_full, ev_expr, kExpr_ok, kExpr_ex, ev_if, kIf_true, kIf_false, ev_for, kFor_ok, ev_while, ev_turn, kTurn1_some, kTurn_nx, kTurn_ct, kTurn_bk, kTurn_rt, kTurn_ex, ev_wturn, kW_true, kW_false, ev_gN, ev_gT, kT_some, itemsT_val, gSets_nil, gSets_val, mkv_int, mkv_bool, mkv_str, mkv_none, mkv_list, mkv_tuple, ev_unp, kUnp_val, kUnp_full, kU_some, ev_aug, kAug_val, kA_some, ev_app, kApp_val, kApp_own, kApp_full, ev_put, kPut_val, callF_eq, entE_nil, unds_succ, unds_zero, entE_cons, entS_int, entS_bool, entS_str, entS_none, entS_list, entS_tuple, kF_nx, kF_rt, kF_ex, frOf_val, frOf_own, frOf_full, ev_var, kVar_val, kVar_own, kVar_full, ev_c, ev_e2, k2_ok, okO_some, ev_e1, k1_ok, frz_val, frz_own, frz_full, frz_bor, frz_brf, dat_val, dat_bor, dat_brf, ev_evs0, ev_evs, kC_ok, ev_cb, kCB_ok, ev_call, kCall_ok, ev_cres, kRs_some, kRes_int, kRes_bool, kRes_str, kRes_none, kRes_list, kRes_tuple, kRes_false, kRes_exc, dats_nil, dats_cons, kD_some, isVal_val, isVal_bor, isVal_brf, ev_isa, kIsa_val, kIsa_own, kIsa_bor, kIsa_full, kIsa_brf, ev_and, kAnd_val, kAnd2_true, kAnd2_false, kAnd2_val, ev_or, kOr_val, kOr2_true, kOr2_false, kOr2_val, ev_not, kNot_val, ev_ife, kIfE_true, kIfE_false, ev_bof, kB_val, ev_tof, kTo_val, kTo_own, kTo_bor, kTo_full, kTo_brf, okB_some, truth_bool, truth_int, truth_none, truth_list, truth_tuple, ev_bnot, kNotB_ok, ev_band, kAndB_ok, kAndB2_true, kAndB2_false, kAndB2_ok, ev_bor, kOrB_ok, kOrB2_true, kOrB2_false, kOrB2_ok, ev_chain, kCh_ok, kCh2_false, kCh2_true, ev_fD, kD2_some, kS_int, kS_bool, kS_str, kS_none, ev_sub, ev_addI, ev_iadd, ev_div, ev_mod, ev_pow, ev_mulI, ev_neg, ev_eqI, ev_neI, ev_ltI, ev_leI, ev_gtI, ev_geI, ev_fD1, kD1_some, ev_int, ev_intb, ev_abs, ev_lenL, ev_lenT, ev_fI2, ev_catVV, ev_repV, ev_list, kLst_ok, ev_tup, kTup_ok, kMk_some, kMkT_some, stors_nil, stors_cons, kSt_some, stor_val, ev_ixL, ev_ixT, ev_ixB, atI_cast, atI_0, atI_1, atI_2, atI_3, atI_4, atI_5, atI_6, atI_7, ev_slice, kSl_val, kSl_own, kSl_bor, kSl_full, ev_pN, ev_pS, kP_int, ev_rev, ev_ls, ev_lsT, ev_tl, all_scal, ev_sorted, kSo_some, ev_iL, kIL_val, kIL_own, kIL_full, ev_iR, kR_1, kR_2, map_mkv_int, mkI_eq, rngI_eq, mkN_eq, ev_iR3, kR3_ok, rngC_eq, mkC_eq, ev_iM, kM_ok, kM2_some, mkEn_val, mkTp_val, ev_iZp, kZp_ok, mkZp_val, ev_lc, kLc_ok, kLcM_some, wipeE_nil, wipeE_cons, ev_byes, kE_val, kE_own, kE_full, kEl_some, kTl_some, ev_appAt, kAppAt_tuple, kAppAt_list, kAA_ok, ev_andI, ev_orI, ev_shr, ev_shl, List.getElem?_cons_zero, List.getElem?_cons_succ, List.set_cons_zero, List.set_cons_succ, List.all_nil, List.all_cons, Bool.and_true, Bool.true_and, Bool.or_true, Bool.true_or, Bool.or_false, Bool.false_or, Bool.and_false, Bool.false_and, Bool.not_true, Bool.not_false, Option.map_some, List.length_nil, List.length_cons, List.length_map, List.nil_append, List.map_cons, List.map_nil, scal_int, scal_bool, scal_str, scal_none, scal_list, scal_tuple, cd_true, cd_false, not_true_eq_false, not_false_eq_true, Nat.zero_le, and_self, true_and, and_true, ne_eq, not_false_eq_true, reduceIte, Nat.reduceLT, Nat.reduceLeDiff, Nat.reduceAdd, Nat.reduceMul, Nat.reduceSub, Nat.reduceEqDiff, Int.reduceLT, Int.reduceLE, Int.reduceAdd, Int.reduceSub, Int.reduceMul, Int.reduceNeg, Int.reduceToNat, Int.reduceEq, Int.reduceAbs, Int.reducePow, h1, atI_cast, get_int hf, h2]
        refine ⟨_, rfl, ?_⟩
        simp only [ev_seq, kSeq_nx, kSeq_rt, kSeq_bk, kSeq_ct, kSeq_ex, ev_nil, ev_pass, ev_break, ev_cont, ev_retn, ev_fg, fgt_nil, fgt_cons, ev_gh, kGh_some, ev_gfrz, kFrz_some, ev_gown, kOwn_full, kOwn_own, kOwn_val, ev_setZ, kSetZ_val, kSetZ_own, kSetZ_full, kSetZ_ex, ev_set, kSet_val, kSet_own, kSet_full, kSet_ex, ev_ret, kRet_val, kRet_own, kRet_full, kRet_ex, ev_retO, kRetO_own, kRetO_val, kRetO_full, ev_expr, kExpr_ok, kExpr_ex, ev_if, kIf_true, kIf_false, ev_for, kFor_ok, ev_while, ev_turn, kTurn1_some, kTurn_nx, kTurn_ct, kTurn_bk, kTurn_rt, kTurn_ex, ev_wturn, kW_true, kW_false, ev_gN, ev_gT, kT_some, itemsT_val, gSets_nil, gSets_val, mkv_int, mkv_bool, mkv_str, mkv_none, mkv_list, mkv_tuple, ev_unp, kUnp_val, kUnp_full, kU_some, ev_aug, kAug_val, kA_some, ev_app, kApp_val, kApp_own, kApp_full, ev_put, kPut_val, callF_eq, entE_nil, unds_succ, unds_zero, entE_cons, entS_int, entS_bool, entS_str, entS_none, entS_list, entS_tuple, kF_nx, kF_rt, kF_ex, frOf_val, frOf_own, frOf_full, ev_var, kVar_val, kVar_own, kVar_full, ev_c, ev_e2, k2_ok, okO_some, ev_e1, k1_ok, frz_val, frz_own, frz_full, frz_bor, frz_brf, dat_val, dat_bor, dat_brf, ev_evs0, ev_evs, kC_ok, ev_cb, kCB_ok, ev_call, kCall_ok, ev_cres, kRs_some, kRes_int, kRes_bool, kRes_str, kRes_none, kRes_list, kRes_tuple, kRes_false, kRes_exc, dats_nil, dats_cons, kD_some, isVal_val, isVal_bor, isVal_brf, ev_isa, kIsa_val, kIsa_own, kIsa_bor, kIsa_full, kIsa_brf, ev_and, kAnd_val, kAnd2_true, kAnd2_false, kAnd2_val, ev_or, kOr_val, kOr2_true, kOr2_false, kOr2_val, ev_not, kNot_val, ev_ife, kIfE_true, kIfE_false, ev_bof, kB_val, ev_tof, kTo_val, kTo_own, kTo_bor, kTo_full, kTo_brf, okB_some, truth_bool, truth_int, truth_none, truth_list, truth_tuple, ev_bnot, kNotB_ok, ev_band, kAndB_ok, kAndB2_true, kAndB2_false, kAndB2_ok, ev_bor, kOrB_ok, kOrB2_true, kOrB2_false, kOrB2_ok, ev_chain, kCh_ok, kCh2_false, kCh2_true, ev_fD, kD2_some, kS_int, kS_bool, kS_str, kS_none, ev_sub, ev_addI, ev_iadd, ev_div, ev_mod, ev_pow, ev_mulI, ev_neg, ev_eqI, ev_neI, ev_ltI, ev_leI, ev_gtI, ev_geI, ev_fD1, kD1_some, ev_int, ev_intb, ev_abs, ev_lenL, ev_lenT, ev_fI2, ev_catVV, ev_repV, ev_list, kLst_ok, ev_tup, kTup_ok, kMk_some, kMkT_some, stors_nil, stors_cons, kSt_some, stor_val, ev_ixL, ev_ixT, ev_ixB, atI_cast, atI_0, atI_1, atI_2, atI_3, atI_4, atI_5, atI_6, atI_7, ev_slice, kSl_val, kSl_own, kSl_bor, kSl_full, ev_pN, ev_pS, kP_int, ev_rev, ev_ls, ev_lsT, ev_tl, all_scal, ev_sorted, kSo_some, ev_iL, kIL_val, kIL_own, kIL_full, ev_iR, kR_1, kR_2, map_mkv_int, mkI_eq, rngI_eq, mkN_eq, ev_iR3, kR3_ok, rngC_eq, mkC_eq, ev_iM, kM_ok, kM2_some, mkEn_val, mkTp_val, ev_iZp, kZp_ok, mkZp_val, ev_lc, kLc_ok, kLcM_some, wipeE_nil, wipeE_cons, ev_byes, kE_val, kE_own, kE_full, kEl_some, kTl_some, ev_appAt, kAppAt_tuple, kAppAt_list, kAA_ok, ev_andI, ev_orI, ev_shr, ev_shl, List.getElem?_cons_zero, List.getElem?_cons_succ, List.set_cons_zero, List.set_cons_succ, List.all_nil, List.all_cons, Bool.and_true, Bool.true_and, Bool.or_true, Bool.true_or, Bool.or_false, Bool.false_or, Bool.and_false, Bool.false_and, Bool.not_true, Bool.not_false, Option.map_some, List.length_nil, List.length_cons, List.length_map, List.nil_append, List.map_cons, List.map_nil, scal_int, scal_bool, scal_str, scal_none, scal_list, scal_tuple, cd_true, cd_false, not_true_eq_false, not_false_eq_true, Nat.zero_le, and_self, true_and, and_true, ne_eq, not_false_eq_true, reduceIte, Nat.reduceLT, Nat.reduceLeDiff, Nat.reduceAdd, Nat.reduceMul, Nat.reduceSub, Nat.reduceEqDiff, Int.reduceLT, Int.reduceLE, Int.reduceAdd, Int.reduceSub, Int.reduceMul, Int.reduceNeg, Int.reduceToNat, Int.reduceEq, Int.reduceAbs, Int.reducePow]
        exact spread_simple_2 hl f1 f2 (fun _ => by rw [List.getElem?_eq_getElem hf]; exact fun y => h2 (Option.some.inj y)) (fun l l1 l2 => fin f l l1 l2)
    · right; left
      simp only [T_spread_simple_2, ev_seq, kSeq_nx, kSeq_rt, kSeq_bk, kSeq_ct, kSeq_ex, ev_nil, ev_pass, ev_break, ev_cont, ev_retn, ev_fg, fgt_nil, fgt_cons, ev_gh, kGh_some, ev_gfrz, kFrz_some, ev_gown, kOwn_full, kOwn_own, kOwn_val, ev_setZ, kSetZ_val, kSetZ_own, kSetZ_full, kSetZ_ex, ev_set, kSet_val, kSet_own, kSet_full, kSet_ex, ev_ret, kRet_val, kRet_own, kRet_full, kRet_ex, ev_retO, kRetO_own, kRetO_val, kRetO_full, ev_expr, kExpr_ok, kExpr_ex, ev_if, kIf_true, kIf_false, ev_for, kFor_ok, ev_while, ev_turn, kTurn1_some, kTurn_nx, kTurn_ct, kTurn_bk, kTurn_rt, kTurn_ex, ev_wturn, kW_true, kW_false, ev_gN, ev_gT, kT_some, itemsT_val, gSets_nil, gSets_val, mkv_int, mkv_bool, mkv_str, mkv_none, mkv_list, mkv_tuple, ev_unp, kUnp_val, kUnp_full, kU_some, ev_aug, kAug_val, kA_some, ev_app, kApp_val, kApp_own, kApp_full, ev_put, kPut_val, callF_eq, entE_nil, unds_succ, unds_zero, entE_cons, entS_int, entS_bool, entS_str, entS_none, entS_list, entS_tuple, kF_nx, kF_rt, kF_ex, frOf_val, frOf_own, frOf_full, ev_var, kVar_val, kVar_own, kVar_full, ev_c, ev_e2, k2_ok, okO_some, ev_e1, k1_ok, frz_val, frz_own, frz_full, frz_bor, frz_brf, dat_val, dat_bor, dat_brf, ev_evs0, ev_evs, kC_ok, ev_cb, kCB_ok, ev_call, kCall_ok, ev_cres, kRs_some, kRes_int, kRes_bool, kRes_str, kRes_none, kRes_list, kRes_tuple, kRes_false, kRes_exc, dats_nil, dats_cons, kD_some, isVal_val, isVal_bor, isVal_brf, ev_isa, kIsa_val, kIsa_own, kIsa_bor, kIsa_full, kIsa_brf, ev_and, kAnd_val, kAnd2_true, kAnd2_false, kAnd2_val, ev_or, kOr_val, kOr2_true, kOr2_false, kOr2_val, ev_not, kNot_val, ev_ife, kIfE_true, kIfE_false, ev_bof, kB_val, ev_tof, kTo_val, kTo_own, kTo_bor, kTo_full, kTo_brf, okB_some, truth_bool, truth_int, truth_none, truth_list, truth_tuple, ev_bnot, kNotB_ok, ev_band, kAndB_ok, kAndB2_true, kAndB2_false, kAndB2_ok, ev_bor, kOrB_ok, kOrB2_true, kOrB2_false, kOrB2_ok, ev_chain, kCh_ok, kCh2_false, kCh2_true, ev_fD, kD2_some, kS_int, kS_bool, kS_str, kS_none, ev_sub, ev_addI, ev_iadd, ev_div, ev_mod, ev_pow, ev_mulI, ev_neg, ev_eqI, ev_neI, ev_ltI, ev_leI, ev_gtI, ev_geI, ev_fD1, kD1_some, ev_int, ev_intb, ev_abs, ev_lenL, ev_lenT, ev_fI2, ev_catVV, ev_repV, ev_list, kLst_ok, ev_tup, kTup_ok, kMk_some, kMkT_some, stors_nil, stors_cons, kSt_some, stor_val, ev_ixL, ev_ixT, ev_ixB, atI_cast, atI_0, atI_1, atI_2, atI_3, atI_4, atI_5, atI_6, atI_7, ev_slice, kSl_val, kSl_own, kSl_bor, kSl_full, ev_pN, ev_pS, kP_int, ev_rev, ev_ls, ev_lsT, ev_tl, all_scal, ev_sorted, kSo_some, ev_iL, kIL_val, kIL_own, kIL_full, ev_iR, kR_1, kR_2, map_mkv_int, mkI_eq, rngI_eq, mkN_eq, ev_iR3, kR3_ok, rngC_eq, mkC_eq, ev_iM, kM_ok, kM2_some, mkEn_val, mkTp_val, ev_iZp, kZp_ok, mkZp_val, ev_lc, kLc_ok, kLcM_some, wipeE_nil, wipeE_cons, ev_byes, kE_val, kE_own, kE_full, kEl_some, kTl_some, ev_appAt, kAppAt_tuple, kAppAt_list, kAA_ok, ev_andI, ev_orI, ev_shr, ev_shl, List.getElem?_cons_zero, List.getElem?_cons_succ, List.set_cons_zero, List.set_cons_succ, List.all_nil, List.all_cons, Bool.and_true, Bool.true_and, Bool.or_true, Bool.true_or, Bool.or_false, Bool.false_or, Bool.and_false, Bool.false_and, Bool.not_true, Bool.not_false, Option.map_some, List.length_nil, List.length_cons, List.length_map, List.nil_append, List.map_cons, List.map_nil, scal_int, scal_bool, scal_str, scal_none, scal_list, scal_tuple, cd_true, cd_false, not_true_eq_false, not_false_eq_true, Nat.zero_le, and_self, true_and, and_true, ne_eq, not_false_eq_true, reduceIte, Nat.reduceLT, Nat.reduceLeDiff, Nat.reduceAdd, Nat.reduceMul, Nat.reduceSub, Nat.reduceEqDiff, Int.reduceLT, Int.reduceLE, Int.reduceAdd, Int.reduceSub, Int.reduceMul, Int.reduceNeg, Int.reduceToNat, Int.reduceEq, Int.reduceAbs, Int.reducePow, h1, atI_cast]
      refine ⟨_, rfl, ?_⟩
      simp only [ev_seq, kSeq_nx, kSeq_rt, kSeq_bk, kSeq_ct, kSeq_ex, ev_nil, ev_pass, ev_break, ev_cont, ev_retn, ev_fg, fgt_nil, fgt_cons, ev_gh, kGh_some, ev_gfrz, kFrz_some, ev_gown, kOwn_full, kOwn_own, kOwn_val, ev_setZ, kSetZ_val, kSetZ_own, kSetZ_full, kSetZ_ex, ev_set, kSet_val, kSet_own, kSet_full, kSet_ex, ev_ret, kRet_val, kRet_own, kRet_full, kRet_ex, ev_retO, kRetO_own, kRetO_val, kRetO_full, ev_expr, kExpr_ok, kExpr_ex, ev_if, kIf_true, kIf_false, ev_for, kFor_ok, ev_while, ev_turn, kTurn1_some, kTurn_nx, kTurn_ct, kTurn_bk, kTurn_rt, kTurn_ex, ev_wturn, kW_true, kW_false, ev_gN, ev_gT, kT_some, itemsT_val, gSets_nil, gSets_val, mkv_int, mkv_bool, mkv_str, mkv_none, mkv_list, mkv_tuple, ev_unp, kUnp_val, kUnp_full, kU_some, ev_aug, kAug_val, kA_some, ev_app, kApp_val, kApp_own, kApp_full, ev_put, kPut_val, callF_eq, entE_nil, unds_succ, unds_zero, entE_cons, entS_int, entS_bool, entS_str, entS_none, entS_list, entS_tuple, kF_nx, kF_rt, kF_ex, frOf_val, frOf_own, frOf_full, ev_var, kVar_val, kVar_own, kVar_full, ev_c, ev_e2, k2_ok, okO_some, ev_e1, k1_ok, frz_val, frz_own, frz_full, frz_bor, frz_brf, dat_val, dat_bor, dat_brf, ev_evs0, ev_evs, kC_ok, ev_cb, kCB_ok, ev_call, kCall_ok, ev_cres, kRs_some, kRes_int, kRes_bool, kRes_str, kRes_none, kRes_list, kRes_tuple, kRes_false, kRes_exc, dats_nil, dats_cons, kD_some, isVal_val, isVal_bor, isVal_brf, ev_isa, kIsa_val, kIsa_own, kIsa_bor, kIsa_full, kIsa_brf, ev_and, kAnd_val, kAnd2_true, kAnd2_false, kAnd2_val, ev_or, kOr_val, kOr2_true, kOr2_false, kOr2_val, ev_not, kNot_val, ev_ife, kIfE_true, kIfE_false, ev_bof, kB_val, ev_tof, kTo_val, kTo_own, kTo_bor, kTo_full, kTo_brf, okB_some, truth_bool, truth_int, truth_none, truth_list, truth_tuple, ev_bnot, kNotB_ok, ev_band, kAndB_ok, kAndB2_true, kAndB2_false, kAndB2_ok, ev_bor, kOrB_ok, kOrB2_true, kOrB2_false, kOrB2_ok, ev_chain, kCh_ok, kCh2_false, kCh2_true, ev_fD, kD2_some, kS_int, kS_bool, kS_str, kS_none, ev_sub, ev_addI, ev_iadd, ev_div, ev_mod, ev_pow, ev_mulI, ev_neg, ev_eqI, ev_neI, ev_ltI, ev_leI, ev_gtI, ev_geI, ev_fD1, kD1_some, ev_int, ev_intb, ev_abs, ev_lenL, ev_lenT, ev_fI2, ev_catVV, ev_repV, ev_list, kLst_ok, ev_tup, kTup_ok, kMk_some, kMkT_some, stors_nil, stors_cons, kSt_some, stor_val, ev_ixL, ev_ixT, ev_ixB, atI_cast, atI_0, atI_1, atI_2, atI_3, atI_4, atI_5, atI_6, atI_7, ev_slice, kSl_val, kSl_own, kSl_bor, kSl_full, ev_pN, ev_pS, kP_int, ev_rev, ev_ls, ev_lsT, ev_tl, all_scal, ev_sorted, kSo_some, ev_iL, kIL_val, kIL_own, kIL_full, ev_iR, kR_1, kR_2, map_mkv_int, mkI_eq, rngI_eq, mkN_eq, ev_iR3, kR3_ok, rngC_eq, mkC_eq, ev_iM, kM_ok, kM2_some, mkEn_val, mkTp_val, ev_iZp, kZp_ok, mkZp_val, ev_lc, kLc_ok, kLcM_some, wipeE_nil, wipeE_cons, ev_byes, kE_val, kE_own, kE_full, kEl_some, kTl_some, ev_appAt, kAppAt_tuple, kAppAt_list, kAA_ok, ev_andI, ev_orI, ev_shr, ev_shl, List.getElem?_cons_zero, List.getElem?_cons_succ, List.set_cons_zero, List.set_cons_succ, List.all_nil, List.all_cons, Bool.and_true, Bool.true_and, Bool.or_true, Bool.true_or, Bool.or_false, Bool.false_or, Bool.and_false, Bool.false_and, Bool.not_true, Bool.not_false, Option.map_some, List.length_nil, List.length_cons, List.length_map, List.nil_append, List.map_cons, List.map_nil, scal_int, scal_bool, scal_str, scal_none, scal_list, scal_tuple, cd_true, cd_false, not_true_eq_false, not_false_eq_true, Nat.zero_le, and_self, true_and, and_true, ne_eq, not_false_eq_true, reduceIte, Nat.reduceLT, Nat.reduceLeDiff, Nat.reduceAdd, Nat.reduceMul, Nat.reduceSub, Nat.reduceEqDiff, Int.reduceLT, Int.reduceLE, Int.reduceAdd, Int.reduceSub, Int.reduceMul, Int.reduceNeg, Int.reduceToNat, Int.reduceEq, Int.reduceAbs, Int.reducePow]
      exact spread_simple_2 hl f1 f2 (fun z => absurd z (by omega)) (fun l l1 l2 => fin f l l1 l2)
def B__law_spread_simple_1 : SF := (sIf (bAnd (bOf (e2 (fD gLt) (eVar 4) (eVar 5))) (bOf (e2 (fD gEq) (e2 fIx (eVar 3) (eVar 4)) (eVar 1))))
  (sSetZ 4 (e2 fAdd (eVar 4) (eC (.int 1))))
  sNil)
def B__law_spread_simple_2 : SF := (sIf (bAnd (bOf (e2 (fD gLt) (eVar 4) (eVar 5))) (bOf (e2 (fD gEq) (e2 fIx (eVar 3) (e2 (fD gSub) (eVar 5) (eC (.int 1)))) (eVar 1))))
  (sSetZ 5 (e2 (fD gSub) (eVar 5) (eC (.int 1))))
  sNil)
def F__law_spread_simple : SF := (sSeq (sUnp [1, 2, 3] (eVar 0))
  (sSeq (sSetZ 4 (eC (.int 0)))
  (sSeq (sSetZ 5 (eCB (fD1 gLen) [(eVar 3)]))
  (sSeq (sForD [6] (iL (eVar 3)) (gN 6)
  PF.B__law_spread_simple_1)
  (sSeq (sForD [6] (iL (eVar 3)) (gN 6)
  PF.B__law_spread_simple_2)
  (sSeq (sIf (bOf (e2 (fD gEq) (eVar 4) (eVar 5)))
  (sRet (eTup [(eVar 1), (eC (.int 0)), (eList [])]))
  sNil)
  (sRet (eTup [(eVar 1), (e2 fAdd (eVar 2) (eVar 4)), (eSl (eVar 3) (pS (eVar 4)) (pS (eVar 5)))]))))))))
def f__law_spread_simple : FN := callF 7 F__law_spread_simple
abbrev ls2 (b st : Int) (cs : List Int) (f l : Nat) : Ev := [.val false (spD b st cs), .val true (.int b), .val true (.int st), .val false (.list (cs.map .int)), .val true (.int f), .val true (.int l), .und]
theorem law_spread_simple_ok {b st : Int} {cs : List Int} : SimpOf b st cs (f__law_spread_simple [spD b st cs]) := by
  simp only [f__law_spread_simple, F__law_spread_simple, ev_seq, kSeq_nx, kSeq_rt, kSeq_bk, kSeq_ct, kSeq_ex, ev_nil, ev_pass, ev_break, ev_cont, ev_retn, ev_fg, fgt_nil, fgt_cons, ev_gh, kGh_some, ev_gfrz, kFrz_some, ev_gown, kOwn_full, kOwn_own, kOwn_val, ev_setZ, kSetZ_val, kSetZ_own, kSetZ_full, kSetZ_ex, ev_set, kSet_val, kSet_own, kSet_full, kSet_ex, ev_ret, kRet_val, kRet_own, kRet_full, kRet_ex, ev_retO, kRetO_own, kRetO_val, kRetO_full, ev_expr, kExpr_ok, kExpr_ex, ev_if, kIf_true, kIf_false, ev_for, kFor_ok, ev_while, ev_turn, kTurn1_some, kTurn_nx, kTurn_ct, kTurn_bk, kTurn_rt, kTurn_ex, ev_wturn, kW_true, kW_false, ev_gN, ev_gT, kT_some, itemsT_val, gSets_nil, gSets_val, mkv_int, mkv_bool, mkv_str, mkv_none, mkv_list, mkv_tuple, ev_unp, kUnp_val, kUnp_full, kU_some, ev_aug, kAug_val, kA_some, ev_app, kApp_val, kApp_own, kApp_full, ev_put, kPut_val, callF_eq, entE_nil, unds_succ, unds_zero, entE_cons, entS_int, entS_bool, entS_str, entS_none, entS_list, entS_tuple, kF_nx, kF_rt, kF_ex, frOf_val, frOf_own, frOf_full, ev_var, kVar_val, kVar_own, kVar_full, ev_c, ev_e2, k2_ok, okO_some, ev_e1, k1_ok, frz_val, frz_own, frz_full, frz_bor, frz_brf, dat_val, dat_bor, dat_brf, ev_evs0, ev_evs, kC_ok, ev_cb, kCB_ok, ev_call, kCall_ok, ev_cres, kRs_some, kRes_int, kRes_bool, kRes_str, kRes_none, kRes_list, kRes_tuple, kRes_false, kRes_exc, dats_nil, dats_cons, kD_some, isVal_val, isVal_bor, isVal_brf, ev_isa, kIsa_val, kIsa_own, kIsa_bor, kIsa_full, kIsa_brf, ev_and, kAnd_val, kAnd2_true, kAnd2_false, kAnd2_val, ev_or, kOr_val, kOr2_true, kOr2_false, kOr2_val, ev_not, kNot_val, ev_ife, kIfE_true, kIfE_false, ev_bof, kB_val, ev_tof, kTo_val, kTo_own, kTo_bor, kTo_full, kTo_brf, okB_some, truth_bool, truth_int, truth_none, truth_list, truth_tuple, ev_bnot, kNotB_ok, ev_band, kAndB_ok, kAndB2_true, kAndB2_false, kAndB2_ok, ev_bor, kOrB_ok, kOrB2_true, kOrB2_false, kOrB2_ok, ev_chain, kCh_ok, kCh2_false, kCh2_true, ev_fD, kD2_some, kS_int, kS_bool, kS_str, kS_none, ev_sub, ev_addI, ev_iadd, ev_div, ev_mod, ev_pow, ev_mulI, ev_neg, ev_eqI, ev_neI, ev_ltI, ev_leI, ev_gtI, ev_geI, ev_fD1, kD1_some, ev_int, ev_intb, ev_abs, ev_lenL, ev_lenT, ev_fI2, ev_catVV, ev_repV, ev_list, kLst_ok, ev_tup, kTup_ok, kMk_some, kMkT_some, stors_nil, stors_cons, kSt_some, stor_val, ev_ixL, ev_ixT, ev_ixB, atI_cast, atI_0, atI_1, atI_2, atI_3, atI_4, atI_5, atI_6, atI_7, ev_slice, kSl_val, kSl_own, kSl_bor, kSl_full, ev_pN, ev_pS, kP_int, ev_rev, ev_ls, ev_lsT, ev_tl, all_scal, ev_sorted, kSo_some, ev_iL, kIL_val, kIL_own, kIL_full, ev_iR, kR_1, kR_2, map_mkv_int, mkI_eq, rngI_eq, mkN_eq, ev_iR3, kR3_ok, rngC_eq, mkC_eq, ev_iM, kM_ok, kM2_some, mkEn_val, mkTp_val, ev_iZp, kZp_ok, mkZp_val, ev_lc, kLc_ok, kLcM_some, wipeE_nil, wipeE_cons, ev_byes, kE_val, kE_own, kE_full, kEl_some, kTl_some, ev_appAt, kAppAt_tuple, kAppAt_list, kAA_ok, ev_andI, ev_orI, ev_shr, ev_shl, List.getElem?_cons_zero, List.getElem?_cons_succ, List.set_cons_zero, List.set_cons_succ, List.all_nil, List.all_cons, Bool.and_true, Bool.true_and, Bool.or_true, Bool.true_or, Bool.or_false, Bool.false_or, Bool.and_false, Bool.false_and, Bool.not_true, Bool.not_false, Option.map_some, List.length_nil, List.length_cons, List.length_map, List.nil_append, List.map_cons, List.map_nil, scal_int, scal_bool, scal_str, scal_none, scal_list, scal_tuple, cd_true, cd_false, not_true_eq_false, not_false_eq_true, Nat.zero_le, and_self, true_and, and_true, ne_eq, not_false_eq_true, reduceIte, Nat.reduceLT, Nat.reduceLeDiff, Nat.reduceAdd, Nat.reduceMul, Nat.reduceSub, Nat.reduceEqDiff, Int.reduceLT, Int.reduceLE, Int.reduceAdd, Int.reduceSub, Int.reduceMul, Int.reduceNeg, Int.reduceToNat, Int.reduceEq, Int.reduceAbs, Int.reducePow]
  refine forT_nx (fun l ρ => ∃ f : Nat, f ≤ cs.length ∧ (∀ j, j < f → cs[j]? = some b) ∧ ((f < cs.length → cs[f]? ≠ some b) ∨ f + l.length = cs.length) ∧ ρ = ls2 b st cs f cs.length) (fun o => SimpOf b st cs (kF (kSeq o _))) ⟨0, Nat.zero_le _, fun j hj => absurd hj (Nat.not_lt_zero j), .inr (Nat.zero_add _), rfl⟩ ?_ ?_
  · rintro x l ρ ⟨f, f1, f2, f3, rfl⟩
    by_cases h1 : (f : Int) < (cs.length : Nat)
    · have hf : f < cs.length := by omega
      by_cases h2 : cs[f] = b
      · have fl : f + (l.length + 1) = cs.length := by
          rcases f3 with z | z
          · exact absurd (by rw [List.getElem?_eq_getElem hf, h2]) (z hf)
          · exact z
        simp only [ls2, B__law_spread_simple_1, ev_seq, kSeq_nx, kSeq_rt, kSeq_bk, kSeq_ct, kSeq_ex, ev_nil, ev_pass, ev_break, ev_cont, ev_retn, ev_fg, fgt_nil, fgt_cons, ev_gh, kGh_some, ev_gfrz, kFrz_some, ev_gown, kOwn_full, kOwn_own, kOwn_val, ev_setZ, kSetZ_val, kSetZ_own, kSetZ_full, kSetZ_ex, ev_set, kSet_val, kSet_own, kSet_full, kSet_ex, ev_ret, kRet_val, kRet_own, kRet_full, kRet_ex, ev_retO, kRetO_own, kRetO_val, kRetO_full, ev_expr, kExpr_ok, kExpr_ex, ev_if, kIf_true, kIf_false, ev_for, kFor_ok, ev_while, ev_turn, kTurn1_some, kTurn_nx, kTurn_ct, kTurn_bk, kTurn_rt, kTurn_ex, ev_wturn, kW_true, kW_false, ev_gN, ev_gT, kT_some, itemsT_val, gSets_nil, gSets_val, mkv_int, mkv_bool, mkv_str, mkv_none, mkv_list, mkv_tuple, ev_unp, kUnp_val, kUnp_full, kU_some, ev_aug, kAug_val, kA_some, ev_app, kApp_val, kApp_own, kApp_full, ev_put, kPut_val, callF_eq, entE_nil, unds_succ, unds_zero, entE_cons, entS_int, entS_bool, entS_str, entS_none, entS_list, entS_tuple, kF_nx, kF_rt, kF_ex, frOf_val, frOf_own, frOf_full, ev_var, kVar_val, kVar_own, kVar_full, ev_c, ev_e2, k2_ok, okO_some, ev_e1, k1_ok, frz_val, frz_own, frz_full, frz_bor, frz_brf, dat_val, dat_bor, dat_brf, ev_evs0, ev_evs, kC_ok, ev_cb, kCB_ok, ev_call, kCall_ok, ev_cres, kRs_some, kRes_int, kRes_bool, kRes_str, kRes_none, kRes_list, kRes_tuple, kRes_false, kRes_exc, dats_nil, dats_cons, kD_some, isVal_val, isVal_bor, isVal_brf, ev_isa, kIsa_val, kIsa_own, kIsa_bor, kIsa_full, kIsa_brf, ev_and, kAnd_val, kAnd2_true, kAnd2_false, kAnd2_val, ev_or, kOr_val, kOr2_true, kOr2_false, kOr2_val, ev_not, kNot_val, ev_ife, kIfE_true, kIfE_false, ev_bof, kB_val, ev_tof, kTo_val, kTo_own, kTo_bor, kTo_full, kTo_brf, okB_some, truth_bool, truth_int, truth_none, truth_list, truth_tuple, ev_bnot, kNotB_ok, ev_band, kAndB_ok, kAndB2_true, kAndB2_false, kAndB2_ok, ev_bor, kOrB_ok, kOrB2_true, kOrB2_false, kOrB2_ok, ev_chain, kCh_ok, kCh2_false, kCh2_true, ev_fD, kD2_some, kS_int, kS_bool, kS_str, kS_none, ev_sub, ev_addI, ev_iadd, ev_div, ev_mod, ev_pow, ev_mulI, ev_neg, ev_eqI, ev_neI, ev_ltI, ev_leI, ev_gtI, ev_geI, ev_fD1, kD1_some, ev_int, ev_intb, ev_abs, ev_lenL, ev_lenT, ev_fI2, ev_catVV, ev_repV, ev_list, kLst_ok, ev_tup, kTup_ok, kMk_some, kMkT_some, stors_nil, stors_cons, kSt_some, stor_val, ev_ixL, ev_ixT, ev_ixB, atI_cast, atI_0, atI_1, atI_2, atI_3, atI_4, atI_5, atI_6, atI_7, ev_slice, kSl_val, kSl_own, kSl_bor, kSl_full, ev_pN, ev_pS, kP_int, ev_rev, ev_ls, ev_lsT, ev_tl, all_scal, ev_sorted, kSo_some, ev_iL, kIL_val, kIL_own, kIL_full, ev_iR, kR_1, kR_2, map_mkv_int, mkI_eq, rngI_eq, mkN_eq, ev_iR3, kR3_ok, rngC_eq, mkC_eq, ev_iM, kM_ok, kM2_some, mkEn_val, mkTp_val, ev_iZp, kZp_ok, mkZp_val, ev_lc, kLc_ok, kLcM_some, wipeE_nil, wipeE_cons, ev_byes, kE_val, kE_own, kE_full, kEl_some, kTl_some, ev_appAt, kAppAt_tuple, kAppAt_list, kAA_ok, ev_andI, ev_orI, ev_shr, ev_shl, List.getElem?_cons_zero, List.getElem?_cons_succ, List.set_cons_zero, List.set_cons_succ, List.all_nil, List.all_cons, Bool.and_true, Bool.true_and, Bool.or_true, Bool.true_or, Bool.or_false, Bool.false_or, Bool.and_false, Bool.false_and, Bool.not_true, Bool.not_false, Option.map_some, List.length_nil, List.length_cons, List.length_map, List.nil_append, List.map_cons, List.map_nil, scal_int, scal_bool, scal_str, scal_none, scal_list, scal_tuple, cd_true, cd_false, not_true_eq_false, not_false_eq_true, Nat.zero_le, and_self, true_and, and_true, ne_eq, not_false_eq_true, reduceIte, Nat.reduceLT, Nat.reduceLeDiff, Nat.reduceAdd, Nat.reduceMul, Nat.reduceSub, Nat.reduceEqDiff, Int.reduceLT, Int.reduceLE, Int.reduceAdd, Int.reduceSub, Int.reduceMul, Int.reduceNeg, Int.reduceToNat, Int.reduceEq, Int.reduceAbs, Int.reducePow, mkI_eq, h1, atI_cast, get_int hf, h2]
        refine ⟨_, rfl, f + 1, by omega, fun j hj => ?_, .inr (by omega), by rw [show ((f : Int) + 1) = ((f + 1 : Nat) : Int) by omega]⟩
        rcases Nat.lt_or_ge j f with z | z
        · exact f2 j z
        · rw [show j = f by omega, List.getElem?_eq_getElem hf, h2]
      · simp only [ls2, B__law_spread_simple_1, ev_seq, kSeq_nx, kSeq_rt, kSeq_bk, kSeq_ct, kSeq_ex, ev_nil, ev_pass, ev_break, ev_cont, ev_retn, ev_fg, fgt_nil, fgt_cons, ev_gh, kGh_some, ev_gfrz, kFrz_some, ev_gown, kOwn_full, kOwn_own, kOwn_val, ev_setZ, kSetZ_val, kSetZ_own, kSetZ_full, kSetZ_ex, ev_set, kSet_val, kSet_own, kSet_full, kSet_ex, ev_ret, kRet_val, kRet_own, kRet_full, kRet_ex, ev_retO, kRetO_own, kRetO_val, kRetO_full, ev_expr, kExpr_ok, kExpr_ex, ev_if, kIf_true, kIf_false, ev_for, kFor_ok, ev_while, ev_turn, kTurn1_some, kTurn_nx, kTurn_ct, kTurn_bk, kTurn_rt, kTurn_ex, ev_wturn, kW_true, kW_false, ev_gN, ev_gT, kT_some, itemsT_val, gSets_nil, gSets_val, mkv_int, mkv_bool, mkv_str, mkv_none, mkv_list, mkv_tuple, ev_unp, kUnp_val, kUnp_full, kU_some, ev_aug, kAug_val, kA_some, ev_app, kApp_val, kApp_own, kApp_full, ev_put, kPut_val, callF_eq, entE_nil, unds_succ, unds_zero, entE_cons, entS_int, entS_bool, entS_str, entS_none, entS_list, entS_tuple, kF_nx, kF_rt, kF_ex, frOf_val, frOf_own, frOf_full, ev_var, kVar_val, kVar_own, kVar_full, ev_c, ev_e2, k2_ok, okO_some, ev_e1, k1_ok, frz_val, frz_own, frz_full, frz_bor, frz_brf, dat_val, dat_bor, dat_brf, ev_evs0, ev_evs, kC_ok, ev_cb, kCB_ok, ev_call, kCall_ok, ev_cres, kRs_some, kRes_int, kRes_bool, kRes_str, kRes_none, kRes_list, kRes_tuple, kRes_false, kRes_exc, dats_nil, dats_cons, kD_some, isVal_val, isVal_bor, isVal_brf, ev_isa, kIsa_val, kIsa_own, kIsa_bor, kIsa_full, kIsa_brf, ev_and, kAnd_val, kAnd2_true, kAnd2_false, kAnd2_val, ev_or, kOr_val, kOr2_true, kOr2_false, kOr2_val, ev_not, kNot_val, ev_ife, kIfE_true, kIfE_false, ev_bof, kB_val, ev_tof, kTo_val, kTo_own, kTo_bor, kTo_full, kTo_brf, okB_some, truth_bool, truth_int, truth_none, truth_list, truth_tuple, ev_bnot, kNotB_ok, ev_band, kAndB_ok, kAndB2_true, kAndB2_false, kAndB2_ok, ev_bor, kOrB_ok, kOrB2_true, kOrB2_false, kOrB2_ok, ev_chain, kCh_ok, kCh2_false, kCh2_true, ev_fD, kD2_some, kS_int, kS_bool, kS_str, kS_none, ev_sub, ev_addI, ev_iadd, ev_div, ev_mod, ev_pow, ev_mulI, ev_neg, ev_eqI, ev_neI, ev_ltI, ev_leI, ev_gtI, ev_geI, ev_fD1, kD1_some, ev_int, ev_intb, ev_abs, ev_lenL, ev_lenT, ev_fI2, ev_catVV, ev_repV, ev_list, kLst_ok, ev_tup, kTup_ok, kMk_some, kMkT_some, stors_nil, stors_cons, kSt_some, stor_val, ev_ixL, ev_ixT, ev_ixB, atI_cast, atI_0, atI_1, atI_2, atI_3, atI_4, atI_5, atI_6, atI_7, ev_slice, kSl_val, kSl_own, kSl_bor, kSl_full, ev_pN, ev_pS, kP_int, ev_rev, ev_ls, ev_lsT, ev_tl, all_scal, ev_sorted, kSo_some, ev_iL, kIL_val, kIL_own, kIL_full, ev_iR, kR_1, kR_2, map_mkv_int, mkI_eq, rngI_eq, mkN_eq, ev_iR3, kR3_ok, rngC_eq, mkC_eq, ev_iM, kM_ok, kM2_some, mkEn_val, mkTp_val, ev_iZp, kZp_ok, mkZp_val, ev_lc, kLc_ok, kLcM_some, wipeE_nil, wipeE_cons, ev_byes, kE_val, kE_own, kE_full, kEl_some, kTl_some, ev_appAt, kAppAt_tuple, kAppAt_list, kAA_ok, ev_andI, ev_orI, ev_shr, ev_shl, List.getElem?_cons_zero, List.getElem?_cons_succ, List.set_cons_zero, List.set_cons_succ, List.all_nil, List.all_cons, Bool.and_true, Bool.true_and, Bool.or_true, Bool.true_or, Bool.or_false, Bool.false_or, Bool.and_false, Bool.false_and, Bool.not_true, Bool.not_false, Option.map_some, List.length_nil, List.length_cons, List.length_map, List.nil_append, List.map_cons, List.map_nil, scal_int, scal_bool, scal_str, scal_none, scal_list, scal_tuple, cd_true, cd_false, not_true_eq_false, not_false_eq_true, Nat.zero_le, and_self, true_and, and_true, ne_eq, not_false_eq_true, reduceIte, Nat.reduceLT, Nat.reduceLeDiff, Nat.reduceAdd, Nat.reduceMul, Nat.reduceSub, Nat.reduceEqDiff, Int.reduceLT, Int.reduceLE, Int.reduceAdd, Int.reduceSub, Int.reduceMul, Int.reduceNeg, Int.reduceToNat, Int.reduceEq, Int.reduceAbs, Int.reducePow, mkI_eq, h1, atI_cast, get_int hf, h2]
        exact ⟨_, rfl, f, f1, f2, .inl fun _ => by rw [List.getElem?_eq_getElem hf]; exact fun y => h2 (Option.some.inj y), rfl⟩
    · have h3 : cd ((f : Int) < (cs.length : Nat)) = false := cd_false h1
      have hx : ∃ r, bOf (e2 (fD gEq) (e2 fIx (eVar 3) (eVar 4)) (eVar 1)) (ls2 b st cs f cs.length) = r := ⟨_, rfl⟩
      simp only [ls2, B__law_spread_simple_1, ev_seq, kSeq_nx, kSeq_rt, kSeq_bk, kSeq_ct, kSeq_ex, ev_nil, ev_pass, ev_break, ev_cont, ev_retn, ev_fg, fgt_nil, fgt_cons, ev_gh, kGh_some, ev_gfrz, kFrz_some, ev_gown, kOwn_full, kOwn_own, kOwn_val, ev_setZ, kSetZ_val, kSetZ_own, kSetZ_full, kSetZ_ex, ev_set, kSet_val, kSet_own, kSet_full, kSet_ex, ev_ret, kRet_val, kRet_own, kRet_full, kRet_ex, ev_retO, kRetO_own, kRetO_val, kRetO_full, ev_expr, kExpr_ok, kExpr_ex, ev_if, kIf_true, kIf_false, ev_for, kFor_ok, ev_while, ev_turn, kTurn1_some, kTurn_nx, kTurn_ct, kTurn_bk, kTurn_rt, kTurn_ex, ev_wturn, kW_true, kW_false, ev_gN, ev_gT, kT_some, itemsT_val, gSets_nil, gSets_val, mkv_int, mkv_bool, mkv_str, mkv_none, mkv_list, mkv_tuple, ev_unp, kUnp_val, kUnp_full, kU_some, ev_aug, kAug_val, kA_some, ev_app, kApp_val, kApp_own, kApp_full, ev_put, kPut_val, callF_eq, entE_nil, unds_succ, unds_zero, entE_cons, entS_int, entS_bool, entS_str, entS_none, entS_list, entS_tuple, kF_nx, kF_rt, kF_ex, frOf_val, frOf_own, frOf_full, ev_var, kVar_val, kVar_own, kVar_full, ev_c, ev_e2, k2_ok, okO_some, ev_e1, k1_ok, frz_val, frz_own, frz_full, frz_bor, frz_brf, dat_val, dat_bor, dat_brf, ev_evs0, ev_evs, kC_ok, ev_cb, kCB_ok, ev_call, kCall_ok, ev_cres, kRs_some, kRes_int, kRes_bool, kRes_str, kRes_none, kRes_list, kRes_tuple, kRes_false, kRes_exc, dats_nil, dats_cons, kD_some, isVal_val, isVal_bor, isVal_brf, ev_isa, kIsa_val, kIsa_own, kIsa_bor, kIsa_full, kIsa_brf, ev_and, kAnd_val, kAnd2_true, kAnd2_false, kAnd2_val, ev_or, kOr_val, kOr2_true, kOr2_false, kOr2_val, ev_not, kNot_val, ev_ife, kIfE_true, kIfE_false, ev_bof, kB_val, ev_tof, kTo_val, kTo_own, kTo_bor, kTo_full, kTo_brf, okB_some, truth_bool, truth_int, truth_none, truth_list, truth_tuple, ev_bnot, kNotB_ok, ev_band, kAndB_ok, kAndB2_true, kAndB2_false, kAndB2_ok, ev_bor, kOrB_ok, kOrB2_true, kOrB2_false, kOrB2_ok, ev_chain, kCh_ok, kCh2_false, kCh2_true, ev_fD, kD2_some, kS_int, kS_bool, kS_str, kS_none, ev_sub, ev_addI, ev_iadd, ev_div, ev_mod, ev_pow, ev_mulI, ev_neg, ev_eqI, ev_neI, ev_ltI, ev_leI, ev_gtI, ev_geI, ev_fD1, kD1_some, ev_int, ev_intb, ev_abs, ev_lenL, ev_lenT, ev_fI2, ev_catVV, ev_repV, ev_list, kLst_ok, ev_tup, kTup_ok, kMk_some, kMkT_some, stors_nil, stors_cons, kSt_some, stor_val, ev_ixL, ev_ixT, ev_ixB, atI_cast, atI_0, atI_1, atI_2, atI_3, atI_4, atI_5, atI_6, atI_7, ev_slice, kSl_val, kSl_own, kSl_bor, kSl_full, ev_pN, ev_pS, kP_int, ev_rev, ev_ls, ev_lsT, ev_tl, all_scal, ev_sorted, kSo_some, ev_iL, kIL_val, kIL_own, kIL_full, ev_iR, kR_1, kR_2, map_mkv_int, mkI_eq, rngI_eq, mkN_eq, ev_iR3, kR3_ok, rngC_eq, mkC_eq, ev_iM, kM_ok, kM2_some, mkEn_val, mkTp_val, ev_iZp, kZp_ok, mkZp_val, ev_lc, kLc_ok, kLcM_some, wipeE_nil, wipeE_cons, ev_byes, kE_val, kE_own, kE_full, kEl_some, kTl_some, ev_appAt, kAppAt_tuple, kAppAt_list, kAA_ok, ev_andI, ev_orI, ev_shr, ev_shl, List.getElem?_cons_zero, List.getElem?_cons_succ, List.set_cons_zero, List.set_cons_succ, List.all_nil, List.all_cons, Bool.and_true, Bool.true_and, Bool.or_true, Bool.true_or, Bool.or_false, Bool.false_or, Bool.and_false, Bool.false_and, Bool.not_true, Bool.not_false, Option.map_some, List.length_nil, List.length_cons, List.length_map, List.nil_append, List.map_cons, List.map_nil, scal_int, scal_bool, scal_str, scal_none, scal_list, scal_tuple, cd_true, cd_false, not_true_eq_false, not_false_eq_true, Nat.zero_le, and_self, true_and, and_true, ne_eq, not_false_eq_true, reduceIte, Nat.reduceLT, Nat.reduceLeDiff, Nat.reduceAdd, Nat.reduceMul, Nat.reduceSub, Nat.reduceEqDiff, Int.reduceLT, Int.reduceLE, Int.reduceAdd, Int.reduceSub, Int.reduceMul, Int.reduceNeg, Int.reduceToNat, Int.reduceEq, Int.reduceAbs, Int.reducePow, mkI_eq, h1]
      exact ⟨_, rfl, f, f1, f2, .inl fun z => absurd z (by omega), rfl⟩
  · rintro ρ ⟨f, f1, f2, f3, rfl⟩
    have f4 : f < cs.length → cs[f]? ≠ some b := by
      rcases f3 with z | z
      · exact z
      · intro y; rw [List.length_nil] at z; omega
    simp only [ev_seq, kSeq_nx, kSeq_rt, kSeq_bk, kSeq_ct, kSeq_ex, ev_nil, ev_pass, ev_break, ev_cont, ev_retn, ev_fg, fgt_nil, fgt_cons, ev_gh, kGh_some, ev_gfrz, kFrz_some, ev_gown, kOwn_full, kOwn_own, kOwn_val, ev_setZ, kSetZ_val, kSetZ_own, kSetZ_full, kSetZ_ex, ev_set, kSet_val, kSet_own, kSet_full, kSet_ex, ev_ret, kRet_val, kRet_own, kRet_full, kRet_ex, ev_retO, kRetO_own, kRetO_val, kRetO_full, ev_expr, kExpr_ok, kExpr_ex, ev_if, kIf_true, kIf_false, ev_for, kFor_ok, ev_while, ev_turn, kTurn1_some, kTurn_nx, kTurn_ct, kTurn_bk, kTurn_rt, kTurn_ex, ev_wturn, kW_true, kW_false, ev_gN, ev_gT, kT_some, itemsT_val, gSets_nil, gSets_val, mkv_int, mkv_bool, mkv_str, mkv_none, mkv_list, mkv_tuple, ev_unp, kUnp_val, kUnp_full, kU_some, ev_aug, kAug_val, kA_some, ev_app, kApp_val, kApp_own, kApp_full, ev_put, kPut_val, callF_eq, entE_nil, unds_succ, unds_zero, entE_cons, entS_int, entS_bool, entS_str, entS_none, entS_list, entS_tuple, kF_nx, kF_rt, kF_ex, frOf_val, frOf_own, frOf_full, ev_var, kVar_val, kVar_own, kVar_full, ev_c, ev_e2, k2_ok, okO_some, ev_e1, k1_ok, frz_val, frz_own, frz_full, frz_bor, frz_brf, dat_val, dat_bor, dat_brf, ev_evs0, ev_evs, kC_ok, ev_cb, kCB_ok, ev_call, kCall_ok, ev_cres, kRs_some, kRes_int, kRes_bool, kRes_str, kRes_none, kRes_list, kRes_tuple, kRes_false, kRes_exc, dats_nil, dats_cons, kD_some, isVal_val, isVal_bor, isVal_brf, ev_isa, kIsa_val, kIsa_own, kIsa_bor, kIsa_full, kIsa_brf, ev_and, kAnd_val, kAnd2_true, kAnd2_false, kAnd2_val, ev_or, kOr_val, kOr2_true, kOr2_false, kOr2_val, ev_not, kNot_val, ev_ife, kIfE_true, kIfE_false, ev_bof, kB_val, ev_tof, kTo_val, kTo_own, kTo_bor, kTo_full, kTo_brf, okB_some, truth_bool, truth_int, truth_none, truth_list, truth_tuple, ev_bnot, kNotB_ok, ev_band, kAndB_ok, kAndB2_true, kAndB2_false, kAndB2_ok, ev_bor, kOrB_ok, kOrB2_true, kOrB2_false, kOrB2_ok, ev_chain, kCh_ok, kCh2_false, kCh2_true, ev_fD, kD2_some, kS_int, kS_bool, kS_str, kS_none, ev_sub, ev_addI, ev_iadd, ev_div, ev_mod, ev_pow, ev_mulI, ev_neg, ev_eqI, ev_neI, ev_ltI, ev_leI, ev_gtI, ev_geI, ev_fD1, kD1_some, ev_int, ev_intb, ev_abs, ev_lenL, ev_lenT, ev_fI2, ev_catVV, ev_repV, ev_list, kLst_ok, ev_tup, kTup_ok, kMk_some, kMkT_some, stors_nil, stors_cons, kSt_some, stor_val, ev_ixL, ev_ixT, ev_ixB, atI_cast, atI_0, atI_1, atI_2, atI_3, atI_4, atI_5, atI_6, atI_7, ev_slice, kSl_val, kSl_own, kSl_bor, kSl_full, ev_pN, ev_pS, kP_int, ev_rev, ev_ls, ev_lsT, ev_tl, all_scal, ev_sorted, kSo_some, ev_iL, kIL_val, kIL_own, kIL_full, ev_iR, kR_1, kR_2, map_mkv_int, mkI_eq, rngI_eq, mkN_eq, ev_iR3, kR3_ok, rngC_eq, mkC_eq, ev_iM, kM_ok, kM2_some, mkEn_val, mkTp_val, ev_iZp, kZp_ok, mkZp_val, ev_lc, kLc_ok, kLcM_some, wipeE_nil, wipeE_cons, ev_byes, kE_val, kE_own, kE_full, kEl_some, kTl_some, ev_appAt, kAppAt_tuple, kAppAt_list, kAA_ok, ev_andI, ev_orI, ev_shr, ev_shl, List.getElem?_cons_zero, List.getElem?_cons_succ, List.set_cons_zero, List.set_cons_succ, List.all_nil, List.all_cons, Bool.and_true, Bool.true_and, Bool.or_true, Bool.true_or, Bool.or_false, Bool.false_or, Bool.and_false, Bool.false_and, Bool.not_true, Bool.not_false, Option.map_some, List.length_nil, List.length_cons, List.length_map, List.nil_append, List.map_cons, List.map_nil, scal_int, scal_bool, scal_str, scal_none, scal_list, scal_tuple, cd_true, cd_false, not_true_eq_false, not_false_eq_true, Nat.zero_le, and_self, true_and, and_true, ne_eq, not_false_eq_true, reduceIte, Nat.reduceLT, Nat.reduceLeDiff, Nat.reduceAdd, Nat.reduceMul, Nat.reduceSub, Nat.reduceEqDiff, Int.reduceLT, Int.reduceLE, Int.reduceAdd, Int.reduceSub, Int.reduceMul, Int.reduceNeg, Int.reduceToNat, Int.reduceEq, Int.reduceAbs, Int.reducePow]
    refine forT_nx (fun q ρ => ∃ l : Nat, f ≤ l ∧ l ≤ cs.length ∧ (∀ j, l ≤ j → j < cs.length → cs[j]? = some b) ∧ ((f < l → cs[l - 1]? ≠ some b) ∨ l = q.length) ∧ ρ = ls2 b st cs f l) (fun o => SimpOf b st cs (kF (kSeq o _))) ⟨cs.length, f1, Nat.le_refl _, fun j h1 h2 => absurd h1 (by omega), .inr rfl, rfl⟩ ?_ ?_
    · rintro x q ρ ⟨l, l1, l2, l3, l4, rfl⟩
      by_cases h1 : (f : Int) < (l : Nat)
      · have hl1 : l - 1 < cs.length := by omega
        have e1 : ((l : Nat) : Int) - 1 = ((l - 1 : Nat) : Int) := by omega
        by_cases h2 : cs[l - 1] = b
        · have ql : l = q.length + 1 := by
            rcases l4 with z | z
            · exact absurd (by rw [List.getElem?_eq_getElem hl1, h2]) (z (by omega))
            · exact z
          simp only [ls2, B__law_spread_simple_2, ev_seq, kSeq_nx, kSeq_rt, kSeq_bk, kSeq_ct, kSeq_ex, ev_nil, ev_pass, ev_break, ev_cont, ev_retn, ev_fg, fgt_nil, fgt_cons, ev_gh, kGh_some, ev_gfrz, kFrz_some, ev_gown, kOwn_full, kOwn_own, kOwn_val, ev_setZ, kSetZ_val, kSetZ_own, kSetZ_full, kSetZ_ex, ev_set, kSet_val, kSet_own, kSet_full, kSet_ex, ev_ret, kRet_val, kRet_own, kRet_full, kRet_ex, ev_retO, kRetO_own, kRetO_val, kRetO_full, ev_expr, kExpr_ok, kExpr_ex, ev_if, kIf_true, kIf_false, ev_for, kFor_ok, ev_while, ev_turn, kTurn1_some, kTurn_nx, kTurn_ct, kTurn_bk, kTurn_rt, kTurn_ex, ev_wturn, kW_true, kW_false, ev_gN, ev_gT, kT_some, itemsT_val, gSets_nil, gSets_val, mkv_int, mkv_bool, mkv_str, mkv_none, mkv_list, mkv_tuple, ev_unp, kUnp_val, kUnp_full, kU_some, ev_aug, kAug_val, kA_some, ev_app, kApp_val, kApp_own, kApp_full, ev_put, kPut_val, callF_eq, entE_nil, unds_succ, unds_zero, entE_cons, entS_int, entS_bool, entS_str, entS_none, entS_list, entS_tuple, kF_nx, kF_rt, kF_ex, frOf_val, frOf_own, frOf_full, ev_var, kVar_val, kVar_own, kVar_full, ev_c, ev_e2, k2_ok, okO_some, ev_e1, k1_ok, frz_val, frz_own, frz_full, frz_bor, frz_brf, dat_val, dat_bor, dat_brf, ev_evs0, ev_evs, kC_ok, ev_cb, kCB_ok, ev_call, kCall_ok, ev_cres, kRs_some, kRes_int, kRes_bool, kRes_str, kRes_none, kRes_list, kRes_tuple, kRes_false, kRes_exc, dats_nil, dats_cons, kD_some, isVal_val, isVal_bor, isVal_brf, ev_isa, kIsa_val, kIsa_own, kIsa_bor, kIsa_full, kIsa_brf, ev_and, kAnd_val, kAnd2_true, kAnd2_false, kAnd2_val, ev_or, kOr_val, kOr2_true, kOr2_false, kOr2_val, ev_not, kNot_val, ev_ife, kIfE_true, kIfE_false, ev_bof, kB_val, ev_tof, kTo_val, kTo_own, kTo_bor, kTo_full, kTo_brf, okB_some, truth_bool, truth_int, truth_none, truth_list, truth_tuple, ev_bnot, kNotB_ok, ev_band, kAndB_ok, kAndB2_true, kAndB2_false, kAndB2_ok, ev_bor, kOrB_ok, kOrB2_true, kOrB2_false, kOrB2_ok, ev_chain, kCh_ok, kCh2_false, kCh2_true, ev_fD, kD2_some, kS_int, kS_bool, kS_str, kS_none, ev_sub, ev_addI, ev_iadd, ev_div, ev_mod, ev_pow, ev_mulI, ev_neg, ev_eqI, ev_neI, ev_ltI, ev_leI, ev_gtI, ev_geI, ev_fD1, kD1_some, ev_int, ev_intb, ev_abs, ev_lenL, ev_lenT, ev_fI2, ev_catVV, ev_repV, ev_list, kLst_ok, ev_tup, kTup_ok, kMk_some, kMkT_some, stors_nil, stors_cons, kSt_some, stor_val, ev_ixL, ev_ixT, ev_ixB, atI_cast, atI_0, atI_1, atI_2, atI_3, atI_4, atI_5, atI_6, atI_7, ev_slice, kSl_val, kSl_own, kSl_bor, kSl_full, ev_pN, ev_pS, kP_int, ev_rev, ev_ls, ev_lsT, ev_tl, all_scal, ev_sorted, kSo_some, ev_iL, kIL_val, kIL_own, kIL_full, ev_iR, kR_1, kR_2, map_mkv_int, mkI_eq, rngI_eq, mkN_eq, ev_iR3, kR3_ok, rngC_eq, mkC_eq, ev_iM, kM_ok, kM2_some, mkEn_val, mkTp_val, ev_iZp, kZp_ok, mkZp_val, ev_lc, kLc_ok, kLcM_some, wipeE_nil, wipeE_cons, ev_byes, kE_val, kE_own, kE_full, kEl_some, kTl_some, ev_appAt, kAppAt_tuple, kAppAt_list, kAA_ok, ev_andI, ev_orI, ev_shr, ev_shl, List.getElem?_cons_zero, List.getElem?_cons_succ, List.set_cons_zero, List.set_cons_succ, List.all_nil, List.all_cons, Bool.and_true, Bool.true_and, Bool.or_true, Bool.true_or, Bool.or_false, Bool.false_or, Bool.and_false, Bool.false_and, Bool.not_true, Bool.not_false, Option.map_some, List.length_nil, List.length_cons, List.length_map, List.nil_append, List.map_cons, List.map_nil, scal_int, scal_bool, scal_str, scal_none, scal_list, scal_tuple, cd_true, cd_false, not_true_eq_false, not_false_eq_true, Nat.zero_le, and_self, true_and, and_true, ne_eq, not_false_eq_true, reduceIte, Nat.reduceLT, Nat.reduceLeDiff, Nat.reduceAdd, Nat.reduceMul, Nat.reduceSub, Nat.reduceEqDiff, Int.reduceLT, Int.reduceLE, Int.reduceAdd, Int.reduceSub, Int.reduceMul, Int.reduceNeg, Int.reduceToNat, Int.reduceEq, Int.reduceAbs, Int.reducePow, mkI_eq, h1, e1, atI_cast, get_int hl1, h2]
          refine ⟨_, rfl, l - 1, by omega, by omega, fun j hj1 hj2 => ?_, .inr (by omega), rfl⟩
          rcases Nat.lt_or_ge j l with z | z
          · rw [show j = l - 1 by omega, List.getElem?_eq_getElem hl1, h2]
          · exact l3 j z hj2
        · simp only [ls2, B__law_spread_simple_2, ev_seq, kSeq_nx, kSeq_rt, kSeq_bk, kSeq_ct, kSeq_ex, ev_nil, ev_pass, ev_break, ev_cont, ev_retn, ev_fg, fgt_nil, fgt_cons, ev_gh, kGh_some, ev_gfrz, kFrz_some, ev_gown, kOwn_full, kOwn_own, kOwn_val, ev_setZ, kSetZ_val, kSetZ_own, kSetZ_full, kSetZ_ex, ev_set, kSet_val, kSet_own, kSet_full, kSet_ex, ev_ret, kRet_val, kRet_own, kRet_full, kRet_ex, ev_retO, kRetO_own, kRetO_val, kRetO_full, ev_expr, kExpr_ok, kExpr_ex, ev_if, kIf_true, kIf_false, ev_for, kFor_ok, ev_while, ev_turn, kTurn1_some, kTurn_nx, kTurn_ct, kTurn_bk, kTurn_rt, kTurn_ex, ev_wturn, kW_true, kW_false, ev_gN, ev_gT, kT_some, itemsT_val, gSets_nil, gSets_val, mkv_int, mkv_bool, mkv_str, mkv_none, mkv_list, mkv_tuple, ev_unp, kUnp_val, kUnp_full, kU_some, ev_aug, kAug_val, kA_some, ev_app, kApp_val, kApp_own, kApp_full, ev_put, kPut_val, callF_eq, entE_nil, unds_succ, unds_zero, entE_cons, entS_int, entS_bool, entS_str, entS_none, entS_list, entS_tuple, kF_nx, kF_rt, kF_ex, frOf_val, frOf_own, frOf_full, ev_var, kVar_val, kVar_own, kVar_full, ev_c, ev_e2, k2_ok, okO_some, ev_e1, k1_ok, frz_val, frz_own, frz_full, frz_bor, frz_brf, dat_val, dat_bor, dat_brf, ev_evs0, ev_evs, kC_ok, ev_cb, kCB_ok, ev_call, kCall_ok, ev_cres, kRs_some, kRes_int, kRes_bool, kRes_str, kRes_none, kRes_list, kRes_tuple, kRes_false, kRes_exc, dats_nil, dats_cons, kD_some, isVal_val, isVal_bor, isVal_brf, ev_isa, kIsa_val, kIsa_own, kIsa_bor, kIsa_full, kIsa_brf, ev_and, kAnd_val, kAnd2_true, kAnd2_false, kAnd2_val, ev_or, kOr_val, kOr2_true, kOr2_false, kOr2_val, ev_not, kNot_val, ev_ife, kIfE_true, kIfE_false, ev_bof, kB_val, ev_tof, kTo_val, kTo_own, kTo_bor, kTo_full, kTo_brf, okB_some, truth_bool, truth_int, truth_none, truth_list, truth_tuple, ev_bnot, kNotB_ok, ev_band, kAndB_ok, kAndB2_true, kAndB2_false, kAndB2_ok, ev_bor, kOrB_ok, kOrB2_true, kOrB2_false, kOrB2_ok, ev_chain, kCh_ok, kCh2_false, kCh2_true, ev_fD, kD2_some, kS_int, kS_bool, kS_str, kS_none, ev_sub, ev_addI, ev_iadd, ev_div, ev_mod, ev_pow, ev_mulI, ev_neg, ev_eqI, ev_neI, ev_ltI, ev_leI, ev_gtI, ev_geI, ev_fD1, kD1_some, ev_int, ev_intb, ev_abs, ev_lenL, ev_lenT, ev_fI2, ev_catVV, ev_repV, ev_list, kLst_ok, ev_tup, kTup_ok, kMk_some, kMkT_some, stors_nil, stors_cons, kSt_some, stor_val, ev_ixL, ev_ixT, ev_ixB, atI_cast, atI_0, atI_1, atI_2, atI_3, atI_4, atI_5, atI_6, atI_7, ev_slice, kSl_val, kSl_own, kSl_bor, kSl_full, ev_pN, ev_pS, kP_int, ev_rev, ev_ls, ev_lsT, ev_tl, all_scal, ev_sorted, kSo_some, ev_iL, kIL_val, kIL_own, kIL_full, ev_iR, kR_1, kR_2, map_mkv_int, mkI_eq, rngI_eq, mkN_eq, ev_iR3, kR3_ok, rngC_eq, mkC_eq, ev_iM, kM_ok, kM2_some, mkEn_val, mkTp_val, ev_iZp, kZp_ok, mkZp_val, ev_lc, kLc_ok, kLcM_some, wipeE_nil, wipeE_cons, ev_byes, kE_val, kE_own, kE_full, kEl_some, kTl_some, ev_appAt, kAppAt_tuple, kAppAt_list, kAA_ok, ev_andI, ev_orI, ev_shr, ev_shl, List.getElem?_cons_zero, List.getElem?_cons_succ, List.set_cons_zero, List.set_cons_succ, List.all_nil, List.all_cons, Bool.and_true, Bool.true_and, Bool.or_true, Bool.true_or, Bool.or_false, Bool.false_or, Bool.and_false, Bool.false_and, Bool.not_true, Bool.not_false, Option.map_some, List.length_nil, List.length_cons, List.length_map, List.nil_append, List.map_cons, List.map_nil, scal_int, scal_bool, scal_str, scal_none, scal_list, scal_tuple, cd_true, cd_false, not_true_eq_false, not_false_eq_true, Nat.zero_le, and_self, true_and, and_true, ne_eq, not_false_eq_true, reduceIte, Nat.reduceLT, Nat.reduceLeDiff, Nat.reduceAdd, Nat.reduceMul, Nat.reduceSub, Nat.reduceEqDiff, Int.reduceLT, Int.reduceLE, Int.reduceAdd, Int.reduceSub, Int.reduceMul, Int.reduceNeg, Int.reduceToNat, Int.reduceEq, Int.reduceAbs, Int.reducePow, mkI_eq, h1, e1, atI_cast, get_int hl1, h2]
          exact ⟨_, rfl, l, l1, l2, l3, .inl fun _ => by rw [List.getElem?_eq_getElem hl1]; exact fun y => h2 (Option.some.inj y), rfl⟩
      · simp only [ls2, B__law_spread_simple_2, ev_seq, kSeq_nx, kSeq_rt, kSeq_bk, kSeq_ct, kSeq_ex, ev_nil, ev_pass, ev_break, ev_cont, ev_retn, ev_fg, fgt_nil, fgt_cons, ev_gh, kGh_some, ev_gfrz, kFrz_some, ev_gown, kOwn_full, kOwn_own, kOwn_val, ev_setZ, kSetZ_val, kSetZ_own, kSetZ_full, kSetZ_ex, ev_set, kSet_val, kSet_own, kSet_full, kSet_ex, ev_ret, kRet_val, kRet_own, kRet_full, kRet_ex, ev_retO, kRetO_own, kRetO_val, kRetO_full, ev_expr, kExpr_ok, kExpr_ex, ev_if, kIf_true, kIf_false, ev_for, kFor_ok, ev_while, ev_turn, kTurn1_some, kTurn_nx, kTurn_ct, kTurn_bk, kTurn_rt, kTurn_ex, ev_wturn, kW_true, kW_false, ev_gN, ev_gT, kT_some, itemsT_val, gSets_nil, gSets_val, mkv_int, mkv_bool, mkv_str, mkv_none, mkv_list, mkv_tuple, ev_unp, kUnp_val, kUnp_full, kU_some, ev_aug, kAug_val, kA_some, ev_app, kApp_val, kApp_own, kApp_full, ev_put, kPut_val, callF_eq, entE_nil, unds_succ, unds_zero, entE_cons, entS_int, entS_bool, entS_str, entS_none, entS_list, entS_tuple, kF_nx, kF_rt, kF_ex, frOf_val, frOf_own, frOf_full, ev_var, kVar_val, kVar_own, kVar_full, ev_c, ev_e2, k2_ok, okO_some, ev_e1, k1_ok, frz_val, frz_own, frz_full, frz_bor, frz_brf, dat_val, dat_bor, dat_brf, ev_evs0, ev_evs, kC_ok, ev_cb, kCB_ok, ev_call, kCall_ok, ev_cres, kRs_some, kRes_int, kRes_bool, kRes_str, kRes_none, kRes_list, kRes_tuple, kRes_false, kRes_exc, dats_nil, dats_cons, kD_some, isVal_val, isVal_bor, isVal_brf, ev_isa, kIsa_val, kIsa_own, kIsa_bor, kIsa_full, kIsa_brf, ev_and, kAnd_val, kAnd2_true, kAnd2_false, kAnd2_val, ev_or, kOr_val, kOr2_true, kOr2_false, kOr2_val, ev_not, kNot_val, ev_ife, kIfE_true, kIfE_false, ev_bof, kB_val, ev_tof, kTo_val, kTo_own, kTo_bor, kTo_full, kTo_brf, okB_some, truth_bool, truth_int, truth_none, truth_list, truth_tuple, ev_bnot, kNotB_ok, ev_band, kAndB_ok, kAndB2_true, kAndB2_false, kAndB2_ok, ev_bor, kOrB_ok, kOrB2_true, kOrB2_false, kOrB2_ok, ev_chain, kCh_ok, kCh2_false, kCh2_true, ev_fD, kD2_some, kS_int, kS_bool, kS_str, kS_none, ev_sub, ev_addI, ev_iadd, ev_div, ev_mod, ev_pow, ev_mulI, ev_neg, ev_eqI, ev_neI, ev_ltI, ev_leI, ev_gtI, ev_geI, ev_fD1, kD1_some, ev_int, ev_intb, ev_abs, ev_lenL, ev_lenT, ev_fI2, ev_catVV, ev_repV, ev_list, kLst_ok, ev_tup, kTup_ok, kMk_some, kMkT_some, stors_nil, stors_cons, kSt_some, stor_val, ev_ixL, ev_ixT, ev_ixB, atI_cast, atI_0, atI_1, atI_2, atI_3, atI_4, atI_5, atI_6, atI_7, ev_slice, kSl_val, kSl_own, kSl_bor, kSl_full, ev_pN, ev_pS, kP_int, ev_rev, ev_ls, ev_lsT, ev_tl, all_scal, ev_sorted, kSo_some, ev_iL, kIL_val, kIL_own, kIL_full, ev_iR, kR_1, kR_2, map_mkv_int, mkI_eq, rngI_eq, mkN_eq, ev_iR3, kR3_ok, rngC_eq, mkC_eq, ev_iM, kM_ok, kM2_some, mkEn_val, mkTp_val, ev_iZp, kZp_ok, mkZp_val, ev_lc, kLc_ok, kLcM_some, wipeE_nil, wipeE_cons, ev_byes, kE_val, kE_own, kE_full, kEl_some, kTl_some, ev_appAt, kAppAt_tuple, kAppAt_list, kAA_ok, ev_andI, ev_orI, ev_shr, ev_shl, List.getElem?_cons_zero, List.getElem?_cons_succ, List.set_cons_zero, List.set_cons_succ, List.all_nil, List.all_cons, Bool.and_true, Bool.true_and, Bool.or_true, Bool.true_or, Bool.or_false, Bool.false_or, Bool.and_false, Bool.false_and, Bool.not_true, Bool.not_false, Option.map_some, List.length_nil, List.length_cons, List.length_map, List.nil_append, List.map_cons, List.map_nil, scal_int, scal_bool, scal_str, scal_none, scal_list, scal_tuple, cd_true, cd_false, not_true_eq_false, not_false_eq_true, Nat.zero_le, and_self, true_and, and_true, ne_eq, not_false_eq_true, reduceIte, Nat.reduceLT, Nat.reduceLeDiff, Nat.reduceAdd, Nat.reduceMul, Nat.reduceSub, Nat.reduceEqDiff, Int.reduceLT, Int.reduceLE, Int.reduceAdd, Int.reduceSub, Int.reduceMul, Int.reduceNeg, Int.reduceToNat, Int.reduceEq, Int.reduceAbs, Int.reducePow, mkI_eq, h1]
        exact ⟨_, rfl, l, l1, l2, l3, .inl fun z => absurd z (by omega), rfl⟩
    · rintro ρ ⟨l, l1, l2, l3, l4, rfl⟩
      refine simp_end f2 l3 l1 l2 (fun z => f4 (by omega)) (fun z => ?_) ?_
      · rcases l4 with y | y
        · exact y z
        · rw [List.length_nil] at y; omega
      · by_cases e : f = l
        · subst e
          simp only [ls2, ev_seq, kSeq_nx, kSeq_rt, kSeq_bk, kSeq_ct, kSeq_ex, ev_nil, ev_pass, ev_break, ev_cont, ev_retn, ev_fg, fgt_nil, fgt_cons, ev_gh, kGh_some, ev_gfrz, kFrz_some, ev_gown, kOwn_full, kOwn_own, kOwn_val, ev_setZ, kSetZ_val, kSetZ_own, kSetZ_full, kSetZ_ex, ev_set, kSet_val, kSet_own, kSet_full, kSet_ex, ev_ret, kRet_val, kRet_own, kRet_full, kRet_ex, ev_retO, kRetO_own, kRetO_val, kRetO_full, ev_expr, kExpr_ok, kExpr_ex, ev_if, kIf_true, kIf_false, ev_for, kFor_ok, ev_while, ev_turn, kTurn1_some, kTurn_nx, kTurn_ct, kTurn_bk, kTurn_rt, kTurn_ex, ev_wturn, kW_true, kW_false, ev_gN, ev_gT, kT_some, itemsT_val, gSets_nil, gSets_val, mkv_int, mkv_bool, mkv_str, mkv_none, mkv_list, mkv_tuple, ev_unp, kUnp_val, kUnp_full, kU_some, ev_aug, kAug_val, kA_some, ev_app, kApp_val, kApp_own, kApp_full, ev_put, kPut_val, callF_eq, entE_nil, unds_succ, unds_zero, entE_cons, entS_int, entS_bool, entS_str, entS_none, entS_list, entS_tuple, kF_nx, kF_rt, kF_ex, frOf_val, frOf_own, frOf_full, ev_var, kVar_val, kVar_own, kVar_full, ev_c, ev_e2, k2_ok, okO_some, ev_e1, k1_ok, frz_val, frz_own, frz_full, frz_bor, frz_brf, dat_val, dat_bor, dat_brf, ev_evs0, ev_evs, kC_ok, ev_cb, kCB_ok, ev_call, kCall_ok, ev_cres, kRs_some, kRes_int, kRes_bool, kRes_str, kRes_none, kRes_list, kRes_tuple, kRes_false, kRes_exc, dats_nil, dats_cons, kD_some, isVal_val, isVal_bor, isVal_brf, ev_isa, kIsa_val, kIsa_own, kIsa_bor, kIsa_full, kIsa_brf, ev_and, kAnd_val, kAnd2_true, kAnd2_false, kAnd2_val, ev_or, kOr_val, kOr2_true, kOr2_false, kOr2_val, ev_not, kNot_val, ev_ife, kIfE_true, kIfE_false, ev_bof, kB_val, ev_tof, kTo_val, kTo_own, kTo_bor, kTo_full, kTo_brf, okB_some, truth_bool, truth_int, truth_none, truth_list, truth_tuple, ev_bnot, kNotB_ok, ev_band, kAndB_ok, kAndB2_true, kAndB2_false, kAndB2_ok, ev_bor, kOrB_ok, kOrB2_true, kOrB2_false, kOrB2_ok, ev_chain, kCh_ok, kCh2_false, kCh2_true, ev_fD, kD2_some, kS_int, kS_bool, kS_str, kS_none, ev_sub, ev_addI, ev_iadd, ev_div, ev_mod, ev_pow, ev_mulI, ev_neg, ev_eqI, ev_neI, ev_ltI, ev_leI, ev_gtI, ev_geI, ev_fD1, kD1_some, ev_int, ev_intb, ev_abs, ev_lenL, ev_lenT, ev_fI2, ev_catVV, ev_repV, ev_list, kLst_ok, ev_tup, kTup_ok, kMk_some, kMkT_some, stors_nil, stors_cons, kSt_some, stor_val, ev_ixL, ev_ixT, ev_ixB, atI_cast, atI_0, atI_1, atI_2, atI_3, atI_4, atI_5, atI_6, atI_7, ev_slice, kSl_val, kSl_own, kSl_bor, kSl_full, ev_pN, ev_pS, kP_int, ev_rev, ev_ls, ev_lsT, ev_tl, all_scal, ev_sorted, kSo_some, ev_iL, kIL_val, kIL_own, kIL_full, ev_iR, kR_1, kR_2, map_mkv_int, mkI_eq, rngI_eq, mkN_eq, ev_iR3, kR3_ok, rngC_eq, mkC_eq, ev_iM, kM_ok, kM2_some, mkEn_val, mkTp_val, ev_iZp, kZp_ok, mkZp_val, ev_lc, kLc_ok, kLcM_some, wipeE_nil, wipeE_cons, ev_byes, kE_val, kE_own, kE_full, kEl_some, kTl_some, ev_appAt, kAppAt_tuple, kAppAt_list, kAA_ok, ev_andI, ev_orI, ev_shr, ev_shl, List.getElem?_cons_zero, List.getElem?_cons_succ, List.set_cons_zero, List.set_cons_succ, List.all_nil, List.all_cons, Bool.and_true, Bool.true_and, Bool.or_true, Bool.true_or, Bool.or_false, Bool.false_or, Bool.and_false, Bool.false_and, Bool.not_true, Bool.not_false, Option.map_some, List.length_nil, List.length_cons, List.length_map, List.nil_append, List.map_cons, List.map_nil, scal_int, scal_bool, scal_str, scal_none, scal_list, scal_tuple, cd_true, cd_false, not_true_eq_false, not_false_eq_true, Nat.zero_le, and_self, true_and, and_true, ne_eq, not_false_eq_true, reduceIte, Nat.reduceLT, Nat.reduceLeDiff, Nat.reduceAdd, Nat.reduceMul, Nat.reduceSub, Nat.reduceEqDiff, Int.reduceLT, Int.reduceLE, Int.reduceAdd, Int.reduceSub, Int.reduceMul, Int.reduceNeg, Int.reduceToNat, Int.reduceEq, Int.reduceAbs, Int.reducePow, if_true]
          rfl
        · have e' : ¬ ((f : Nat) : Int) = (l : Nat) := fun z => e (by exact_mod_cast z)
          simp only [ls2, ev_seq, kSeq_nx, kSeq_rt, kSeq_bk, kSeq_ct, kSeq_ex, ev_nil, ev_pass, ev_break, ev_cont, ev_retn, ev_fg, fgt_nil, fgt_cons, ev_gh, kGh_some, ev_gfrz, kFrz_some, ev_gown, kOwn_full, kOwn_own, kOwn_val, ev_setZ, kSetZ_val, kSetZ_own, kSetZ_full, kSetZ_ex, ev_set, kSet_val, kSet_own, kSet_full, kSet_ex, ev_ret, kRet_val, kRet_own, kRet_full, kRet_ex, ev_retO, kRetO_own, kRetO_val, kRetO_full, ev_expr, kExpr_ok, kExpr_ex, ev_if, kIf_true, kIf_false, ev_for, kFor_ok, ev_while, ev_turn, kTurn1_some, kTurn_nx, kTurn_ct, kTurn_bk, kTurn_rt, kTurn_ex, ev_wturn, kW_true, kW_false, ev_gN, ev_gT, kT_some, itemsT_val, gSets_nil, gSets_val, mkv_int, mkv_bool, mkv_str, mkv_none, mkv_list, mkv_tuple, ev_unp, kUnp_val, kUnp_full, kU_some, ev_aug, kAug_val, kA_some, ev_app, kApp_val, kApp_own, kApp_full, ev_put, kPut_val, callF_eq, entE_nil, unds_succ, unds_zero, entE_cons, entS_int, entS_bool, entS_str, entS_none, entS_list, entS_tuple, kF_nx, kF_rt, kF_ex, frOf_val, frOf_own, frOf_full, ev_var, kVar_val, kVar_own, kVar_full, ev_c, ev_e2, k2_ok, okO_some, ev_e1, k1_ok, frz_val, frz_own, frz_full, frz_bor, frz_brf, dat_val, dat_bor, dat_brf, ev_evs0, ev_evs, kC_ok, ev_cb, kCB_ok, ev_call, kCall_ok, ev_cres, kRs_some, kRes_int, kRes_bool, kRes_str, kRes_none, kRes_list, kRes_tuple, kRes_false, kRes_exc, dats_nil, dats_cons, kD_some, isVal_val, isVal_bor, isVal_brf, ev_isa, kIsa_val, kIsa_own, kIsa_bor, kIsa_full, kIsa_brf, ev_and, kAnd_val, kAnd2_true, kAnd2_false, kAnd2_val, ev_or, kOr_val, kOr2_true, kOr2_false, kOr2_val, ev_not, kNot_val, ev_ife, kIfE_true, kIfE_false, ev_bof, kB_val, ev_tof, kTo_val, kTo_own, kTo_bor, kTo_full, kTo_brf, okB_some, truth_bool, truth_int, truth_none, truth_list, truth_tuple, ev_bnot, kNotB_ok, ev_band, kAndB_ok, kAndB2_true, kAndB2_false, kAndB2_ok, ev_bor, kOrB_ok, kOrB2_true, kOrB2_false, kOrB2_ok, ev_chain, kCh_ok, kCh2_false, kCh2_true, ev_fD, kD2_some, kS_int, kS_bool, kS_str, kS_none, ev_sub, ev_addI, ev_iadd, ev_div, ev_mod, ev_pow, ev_mulI, ev_neg, ev_eqI, ev_neI, ev_ltI, ev_leI, ev_gtI, ev_geI, ev_fD1, kD1_some, ev_int, ev_intb, ev_abs, ev_lenL, ev_lenT, ev_fI2, ev_catVV, ev_repV, ev_list, kLst_ok, ev_tup, kTup_ok, kMk_some, kMkT_some, stors_nil, stors_cons, kSt_some, stor_val, ev_ixL, ev_ixT, ev_ixB, atI_cast, atI_0, atI_1, atI_2, atI_3, atI_4, atI_5, atI_6, atI_7, ev_slice, kSl_val, kSl_own, kSl_bor, kSl_full, ev_pN, ev_pS, kP_int, ev_rev, ev_ls, ev_lsT, ev_tl, all_scal, ev_sorted, kSo_some, ev_iL, kIL_val, kIL_own, kIL_full, ev_iR, kR_1, kR_2, map_mkv_int, mkI_eq, rngI_eq, mkN_eq, ev_iR3, kR3_ok, rngC_eq, mkC_eq, ev_iM, kM_ok, kM2_some, mkEn_val, mkTp_val, ev_iZp, kZp_ok, mkZp_val, ev_lc, kLc_ok, kLcM_some, wipeE_nil, wipeE_cons, ev_byes, kE_val, kE_own, kE_full, kEl_some, kTl_some, ev_appAt, kAppAt_tuple, kAppAt_list, kAA_ok, ev_andI, ev_orI, ev_shr, ev_shl, List.getElem?_cons_zero, List.getElem?_cons_succ, List.set_cons_zero, List.set_cons_succ, List.all_nil, List.all_cons, Bool.and_true, Bool.true_and, Bool.or_true, Bool.true_or, Bool.or_false, Bool.false_or, Bool.and_false, Bool.false_and, Bool.not_true, Bool.not_false, Option.map_some, List.length_nil, List.length_cons, List.length_map, List.nil_append, List.map_cons, List.map_nil, scal_int, scal_bool, scal_str, scal_none, scal_list, scal_tuple, cd_true, cd_false, not_true_eq_false, not_false_eq_true, Nat.zero_le, and_self, true_and, and_true, ne_eq, not_false_eq_true, reduceIte, Nat.reduceLT, Nat.reduceLeDiff, Nat.reduceAdd, Nat.reduceMul, Nat.reduceSub, Nat.reduceEqDiff, Int.reduceLT, Int.reduceLE, Int.reduceAdd, Int.reduceSub, Int.reduceMul, Int.reduceNeg, Int.reduceToNat, Int.reduceEq, Int.reduceAbs, Int.reducePow, e', cutD_nat, all_scal, if_neg e]
          rw [← List.map_drop, ← List.map_take]
/-- both give the same -/
theorem SimpOf.eq {b st st' : Int} {cs cs' : List Int} {r r' : Option FR} (h : SimpOf b st cs r) (h' : SimpOf b st' cs' r') (e : ∀ p, sc b st cs p = sc b st' cs' p) : r = r' := by
  obtain ⟨s1, c1, e1, e2, e3, -⟩ := h
  obtain ⟨s2, c2, e4, e5, e6, -⟩ := h'
  obtain ⟨h1, h2⟩ := simp_unique e2 e5 fun p => by rw [e3, e6, e]
  rw [e1, e4, h1, h2]
def F_spread_cell : SF := (sSeq (sUnp [2, 3, 4] (eVar 0))
  (sSeq (sIf (bOf (eChain gLe gLt (eVar 3) (eVar 1) (e2 fAdd (eVar 3) (eCB (fD1 gLen) [(eVar 4)]))))
  (sRet (e2 fIx (eVar 4) (e2 (fD gSub) (eVar 1) (eVar 3))))
  sNil)
  (sRet (eVar 2))))
def f_spread_cell : FN := callF 5 F_spread_cell
theorem at_sc {b st p : Int} {cs : List Int} (h1 : st ≤ p) (h2 : p < st + cs.length) : atI (cs.map PyData.int) (p - st) = some (.int (sc b st cs p)) := by
  obtain ⟨i, hi⟩ : ∃ i : Nat, p - st = i := ⟨(p - st).toNat, by omega⟩
  have il : i < cs.length := by omega
  rw [hi, atI_cast, get_int il, show p = st + (i : Int) by omega, sc_at il]
theorem spread_cell_ok {b st p : Int} {cs : List Int} : f_spread_cell [spD b st cs, .int p] = some (.ret true (.int (sc b st cs p))) := by
  by_cases h1 : st ≤ p
  · by_cases h2 : p < st + cs.length
    · simp only [f_spread_cell, F_spread_cell, ev_seq, kSeq_nx, kSeq_rt, kSeq_bk, kSeq_ct, kSeq_ex, ev_nil, ev_pass, ev_break, ev_cont, ev_retn, ev_fg, fgt_nil, fgt_cons, ev_gh, kGh_some, ev_gfrz, kFrz_some, ev_gown, kOwn_full, kOwn_own, kOwn_val, ev_setZ, kSetZ_val, kSetZ_own, kSetZ_full, kSetZ_ex, ev_set, kSet_val, kSet_own, kSet_full, kSet_ex, ev_ret, kRet_val, kRet_own, kRet_full, kRet_ex, ev_retO, kRetO_own, kRetO_val, kRetO_full, ev_expr, kExpr_ok, kExpr_ex, ev_if, kIf_true, kIf_false, ev_for, kFor_ok, ev_while, ev_turn, kTurn1_some, kTurn_nx, kTurn_ct, kTurn_bk, kTurn_rt, kTurn_ex, ev_wturn, kW_true, kW_false, ev_gN, ev_gT, kT_some, itemsT_val, gSets_nil, gSets_val, mkv_int, mkv_bool, mkv_str, mkv_none, mkv_list, mkv_tuple, ev_unp, kUnp_val, kUnp_full, kU_some, ev_aug, kAug_val, kA_some, ev_app, kApp_val, kApp_own, kApp_full, ev_put, kPut_val, callF_eq, entE_nil, unds_succ, unds_zero, entE_cons, entS_int, entS_bool, entS_str, entS_none, entS_list, entS_tuple, kF_nx, kF_rt, kF_ex, frOf_val, frOf_own, frOf_full, ev_var, kVar_val, kVar_own, kVar_full, ev_c, ev_e2, k2_ok, okO_some, ev_e1, k1_ok, frz_val, frz_own, frz_full, frz_bor, frz_brf, dat_val, dat_bor, dat_brf, ev_evs0, ev_evs, kC_ok, ev_cb, kCB_ok, ev_call, kCall_ok, ev_cres, kRs_some, kRes_int, kRes_bool, kRes_str, kRes_none, kRes_list, kRes_tuple, kRes_false, kRes_exc, dats_nil, dats_cons, kD_some, isVal_val, isVal_bor, isVal_brf, ev_isa, kIsa_val, kIsa_own, kIsa_bor, kIsa_full, kIsa_brf, ev_and, kAnd_val, kAnd2_true, kAnd2_false, kAnd2_val, ev_or, kOr_val, kOr2_true, kOr2_false, kOr2_val, ev_not, kNot_val, ev_ife, kIfE_true, kIfE_false, ev_bof, kB_val, ev_tof, kTo_val, kTo_own, kTo_bor, kTo_full, kTo_brf, okB_some, truth_bool, truth_int, truth_none, truth_list, truth_tuple, ev_bnot, kNotB_ok, ev_band, kAndB_ok, kAndB2_true, kAndB2_false, kAndB2_ok, ev_bor, kOrB_ok, kOrB2_true, kOrB2_false, kOrB2_ok, ev_chain, kCh_ok, kCh2_false, kCh2_true, ev_fD, kD2_some, kS_int, kS_bool, kS_str, kS_none, ev_sub, ev_addI, ev_iadd, ev_div, ev_mod, ev_pow, ev_mulI, ev_neg, ev_eqI, ev_neI, ev_ltI, ev_leI, ev_gtI, ev_geI, ev_fD1, kD1_some, ev_int, ev_intb, ev_abs, ev_lenL, ev_lenT, ev_fI2, ev_catVV, ev_repV, ev_list, kLst_ok, ev_tup, kTup_ok, kMk_some, kMkT_some, stors_nil, stors_cons, kSt_some, stor_val, ev_ixL, ev_ixT, ev_ixB, atI_cast, atI_0, atI_1, atI_2, atI_3, atI_4, atI_5, atI_6, atI_7, ev_slice, kSl_val, kSl_own, kSl_bor, kSl_full, ev_pN, ev_pS, kP_int, ev_rev, ev_ls, ev_lsT, ev_tl, all_scal, ev_sorted, kSo_some, ev_iL, kIL_val, kIL_own, kIL_full, ev_iR, kR_1, kR_2, map_mkv_int, mkI_eq, rngI_eq, mkN_eq, ev_iR3, kR3_ok, rngC_eq, mkC_eq, ev_iM, kM_ok, kM2_some, mkEn_val, mkTp_val, ev_iZp, kZp_ok, mkZp_val, ev_lc, kLc_ok, kLcM_some, wipeE_nil, wipeE_cons, ev_byes, kE_val, kE_own, kE_full, kEl_some, kTl_some, ev_appAt, kAppAt_tuple, kAppAt_list, kAA_ok, ev_andI, ev_orI, ev_shr, ev_shl, List.getElem?_cons_zero, List.getElem?_cons_succ, List.set_cons_zero, List.set_cons_succ, List.all_nil, List.all_cons, Bool.and_true, Bool.true_and, Bool.or_true, Bool.true_or, Bool.or_false, Bool.false_or, Bool.and_false, Bool.false_and, Bool.not_true, Bool.not_false, Option.map_some, List.length_nil, List.length_cons, List.length_map, List.nil_append, List.map_cons, List.map_nil, scal_int, scal_bool, scal_str, scal_none, scal_list, scal_tuple, cd_true, cd_false, not_true_eq_false, not_false_eq_true, Nat.zero_le, and_self, true_and, and_true, ne_eq, not_false_eq_true, reduceIte, Nat.reduceLT, Nat.reduceLeDiff, Nat.reduceAdd, Nat.reduceMul, Nat.reduceSub, Nat.reduceEqDiff, Int.reduceLT, Int.reduceLE, Int.reduceAdd, Int.reduceSub, Int.reduceMul, Int.reduceNeg, Int.reduceToNat, Int.reduceEq, Int.reduceAbs, Int.reducePow, h1, h2, at_sc (b := b) h1 h2]
    · simp only [f_spread_cell, F_spread_cell, ev_seq, kSeq_nx, kSeq_rt, kSeq_bk, kSeq_ct, kSeq_ex, ev_nil, ev_pass, ev_break, ev_cont, ev_retn, ev_fg, fgt_nil, fgt_cons, ev_gh, kGh_some, ev_gfrz, kFrz_some, ev_gown, kOwn_full, kOwn_own, kOwn_val, ev_setZ, kSetZ_val, kSetZ_own, kSetZ_full, kSetZ_ex, ev_set, kSet_val, kSet_own, kSet_full, kSet_ex, ev_ret, kRet_val, kRet_own, kRet_full, kRet_ex, ev_retO, kRetO_own, kRetO_val, kRetO_full, ev_expr, kExpr_ok, kExpr_ex, ev_if, kIf_true, kIf_false, ev_for, kFor_ok, ev_while, ev_turn, kTurn1_some, kTurn_nx, kTurn_ct, kTurn_bk, kTurn_rt, kTurn_ex, ev_wturn, kW_true, kW_false, ev_gN, ev_gT, kT_some, itemsT_val, gSets_nil, gSets_val, mkv_int, mkv_bool, mkv_str, mkv_none, mkv_list, mkv_tuple, ev_unp, kUnp_val, kUnp_full, kU_some, ev_aug, kAug_val, kA_some, ev_app, kApp_val, kApp_own, kApp_full, ev_put, kPut_val, callF_eq, entE_nil, unds_succ, unds_zero, entE_cons, entS_int, entS_bool, entS_str, entS_none, entS_list, entS_tuple, kF_nx, kF_rt, kF_ex, frOf_val, frOf_own, frOf_full, ev_var, kVar_val, kVar_own, kVar_full, ev_c, ev_e2, k2_ok, okO_some, ev_e1, k1_ok, frz_val, frz_own, frz_full, frz_bor, frz_brf, dat_val, dat_bor, dat_brf, ev_evs0, ev_evs, kC_ok, ev_cb, kCB_ok, ev_call, kCall_ok, ev_cres, kRs_some, kRes_int, kRes_bool, kRes_str, kRes_none, kRes_list, kRes_tuple, kRes_false, kRes_exc, dats_nil, dats_cons, kD_some, isVal_val, isVal_bor, isVal_brf, ev_isa, kIsa_val, kIsa_own, kIsa_bor, kIsa_full, kIsa_brf, ev_and, kAnd_val, kAnd2_true, kAnd2_false, kAnd2_val, ev_or, kOr_val, kOr2_true, kOr2_false, kOr2_val, ev_not, kNot_val, ev_ife, kIfE_true, kIfE_false, ev_bof, kB_val, ev_tof, kTo_val, kTo_own, kTo_bor, kTo_full, kTo_brf, okB_some, truth_bool, truth_int, truth_none, truth_list, truth_tuple, ev_bnot, kNotB_ok, ev_band, kAndB_ok, kAndB2_true, kAndB2_false, kAndB2_ok, ev_bor, kOrB_ok, kOrB2_true, kOrB2_false, kOrB2_ok, ev_chain, kCh_ok, kCh2_false, kCh2_true, ev_fD, kD2_some, kS_int, kS_bool, kS_str, kS_none, ev_sub, ev_addI, ev_iadd, ev_div, ev_mod, ev_pow, ev_mulI, ev_neg, ev_eqI, ev_neI, ev_ltI, ev_leI, ev_gtI, ev_geI, ev_fD1, kD1_some, ev_int, ev_intb, ev_abs, ev_lenL, ev_lenT, ev_fI2, ev_catVV, ev_repV, ev_list, kLst_ok, ev_tup, kTup_ok, kMk_some, kMkT_some, stors_nil, stors_cons, kSt_some, stor_val, ev_ixL, ev_ixT, ev_ixB, atI_cast, atI_0, atI_1, atI_2, atI_3, atI_4, atI_5, atI_6, atI_7, ev_slice, kSl_val, kSl_own, kSl_bor, kSl_full, ev_pN, ev_pS, kP_int, ev_rev, ev_ls, ev_lsT, ev_tl, all_scal, ev_sorted, kSo_some, ev_iL, kIL_val, kIL_own, kIL_full, ev_iR, kR_1, kR_2, map_mkv_int, mkI_eq, rngI_eq, mkN_eq, ev_iR3, kR3_ok, rngC_eq, mkC_eq, ev_iM, kM_ok, kM2_some, mkEn_val, mkTp_val, ev_iZp, kZp_ok, mkZp_val, ev_lc, kLc_ok, kLcM_some, wipeE_nil, wipeE_cons, ev_byes, kE_val, kE_own, kE_full, kEl_some, kTl_some, ev_appAt, kAppAt_tuple, kAppAt_list, kAA_ok, ev_andI, ev_orI, ev_shr, ev_shl, List.getElem?_cons_zero, List.getElem?_cons_succ, List.set_cons_zero, List.set_cons_succ, List.all_nil, List.all_cons, Bool.and_true, Bool.true_and, Bool.or_true, Bool.true_or, Bool.or_false, Bool.false_or, Bool.and_false, Bool.false_and, Bool.not_true, Bool.not_false, Option.map_some, List.length_nil, List.length_cons, List.length_map, List.nil_append, List.map_cons, List.map_nil, scal_int, scal_bool, scal_str, scal_none, scal_list, scal_tuple, cd_true, cd_false, not_true_eq_false, not_false_eq_true, Nat.zero_le, and_self, true_and, and_true, ne_eq, not_false_eq_true, reduceIte, Nat.reduceLT, Nat.reduceLeDiff, Nat.reduceAdd, Nat.reduceMul, Nat.reduceSub, Nat.reduceEqDiff, Int.reduceLT, Int.reduceLE, Int.reduceAdd, Int.reduceSub, Int.reduceMul, Int.reduceNeg, Int.reduceToNat, Int.reduceEq, Int.reduceAbs, Int.reducePow, h1, h2]
      rw [sc_out (by omega)]
  · simp only [f_spread_cell, F_spread_cell, ev_seq, kSeq_nx, kSeq_rt, kSeq_bk, kSeq_ct, kSeq_ex, ev_nil, ev_pass, ev_break, ev_cont, ev_retn, ev_fg, fgt_nil, fgt_cons, ev_gh, kGh_some, ev_gfrz, kFrz_some, ev_gown, kOwn_full, kOwn_own, kOwn_val, ev_setZ, kSetZ_val, kSetZ_own, kSetZ_full, kSetZ_ex, ev_set, kSet_val, kSet_own, kSet_full, kSet_ex, ev_ret, kRet_val, kRet_own, kRet_full, kRet_ex, ev_retO, kRetO_own, kRetO_val, kRetO_full, ev_expr, kExpr_ok, kExpr_ex, ev_if, kIf_true, kIf_false, ev_for, kFor_ok, ev_while, ev_turn, kTurn1_some, kTurn_nx, kTurn_ct, kTurn_bk, kTurn_rt, kTurn_ex, ev_wturn, kW_true, kW_false, ev_gN, ev_gT, kT_some, itemsT_val, gSets_nil, gSets_val, mkv_int, mkv_bool, mkv_str, mkv_none, mkv_list, mkv_tuple, ev_unp, kUnp_val, kUnp_full, kU_some, ev_aug, kAug_val, kA_some, ev_app, kApp_val, kApp_own, kApp_full, ev_put, kPut_val, callF_eq, entE_nil, unds_succ, unds_zero, entE_cons, entS_int, entS_bool, entS_str, entS_none, entS_list, entS_tuple, kF_nx, kF_rt, kF_ex, frOf_val, frOf_own, frOf_full, ev_var, kVar_val, kVar_own, kVar_full, ev_c, ev_e2, k2_ok, okO_some, ev_e1, k1_ok, frz_val, frz_own, frz_full, frz_bor, frz_brf, dat_val, dat_bor, dat_brf, ev_evs0, ev_evs, kC_ok, ev_cb, kCB_ok, ev_call, kCall_ok, ev_cres, kRs_some, kRes_int, kRes_bool, kRes_str, kRes_none, kRes_list, kRes_tuple, kRes_false, kRes_exc, dats_nil, dats_cons, kD_some, isVal_val, isVal_bor, isVal_brf, ev_isa, kIsa_val, kIsa_own, kIsa_bor, kIsa_full, kIsa_brf, ev_and, kAnd_val, kAnd2_true, kAnd2_false, kAnd2_val, ev_or, kOr_val, kOr2_true, kOr2_false, kOr2_val, ev_not, kNot_val, ev_ife, kIfE_true, kIfE_false, ev_bof, kB_val, ev_tof, kTo_val, kTo_own, kTo_bor, kTo_full, kTo_brf, okB_some, truth_bool, truth_int, truth_none, truth_list, truth_tuple, ev_bnot, kNotB_ok, ev_band, kAndB_ok, kAndB2_true, kAndB2_false, kAndB2_ok, ev_bor, kOrB_ok, kOrB2_true, kOrB2_false, kOrB2_ok, ev_chain, kCh_ok, kCh2_false, kCh2_true, ev_fD, kD2_some, kS_int, kS_bool, kS_str, kS_none, ev_sub, ev_addI, ev_iadd, ev_div, ev_mod, ev_pow, ev_mulI, ev_neg, ev_eqI, ev_neI, ev_ltI, ev_leI, ev_gtI, ev_geI, ev_fD1, kD1_some, ev_int, ev_intb, ev_abs, ev_lenL, ev_lenT, ev_fI2, ev_catVV, ev_repV, ev_list, kLst_ok, ev_tup, kTup_ok, kMk_some, kMkT_some, stors_nil, stors_cons, kSt_some, stor_val, ev_ixL, ev_ixT, ev_ixB, atI_cast, atI_0, atI_1, atI_2, atI_3, atI_4, atI_5, atI_6, atI_7, ev_slice, kSl_val, kSl_own, kSl_bor, kSl_full, ev_pN, ev_pS, kP_int, ev_rev, ev_ls, ev_lsT, ev_tl, all_scal, ev_sorted, kSo_some, ev_iL, kIL_val, kIL_own, kIL_full, ev_iR, kR_1, kR_2, map_mkv_int, mkI_eq, rngI_eq, mkN_eq, ev_iR3, kR3_ok, rngC_eq, mkC_eq, ev_iM, kM_ok, kM2_some, mkEn_val, mkTp_val, ev_iZp, kZp_ok, mkZp_val, ev_lc, kLc_ok, kLcM_some, wipeE_nil, wipeE_cons, ev_byes, kE_val, kE_own, kE_full, kEl_some, kTl_some, ev_appAt, kAppAt_tuple, kAppAt_list, kAA_ok, ev_andI, ev_orI, ev_shr, ev_shl, List.getElem?_cons_zero, List.getElem?_cons_succ, List.set_cons_zero, List.set_cons_succ, List.all_nil, List.all_cons, Bool.and_true, Bool.true_and, Bool.or_true, Bool.true_or, Bool.or_false, Bool.false_or, Bool.and_false, Bool.false_and, Bool.not_true, Bool.not_false, Option.map_some, List.length_nil, List.length_cons, List.length_map, List.nil_append, List.map_cons, List.map_nil, scal_int, scal_bool, scal_str, scal_none, scal_list, scal_tuple, cd_true, cd_false, not_true_eq_false, not_false_eq_true, Nat.zero_le, and_self, true_and, and_true, ne_eq, not_false_eq_true, reduceIte, Nat.reduceLT, Nat.reduceLeDiff, Nat.reduceAdd, Nat.reduceMul, Nat.reduceSub, Nat.reduceEqDiff, Int.reduceLT, Int.reduceLE, Int.reduceAdd, Int.reduceSub, Int.reduceMul, Int.reduceNeg, Int.reduceToNat, Int.reduceEq, Int.reduceAbs, Int.reducePow, h1]
    rw [sc_out (by omega)]
def F__law_spread_cell : SF := (sSeq (sUnp [2, 3, 4] (eVar 0))
  (sSeq (sIf (bOf (eChain gLe gLt (eVar 3) (eVar 1) (e2 fAdd (eVar 3) (eCB (fD1 gLen) [(eVar 4)]))))
  (sRet (e2 fIx (eVar 4) (e2 (fD gSub) (eVar 1) (eVar 3))))
  sNil)
  (sRet (eVar 2))))
def f__law_spread_cell : FN := callF 5 F__law_spread_cell
theorem law_spread_cell_ok {b st p : Int} {cs : List Int} : f__law_spread_cell [spD b st cs, .int p] = some (.ret true (.int (sc b st cs p))) := by
  by_cases h1 : st ≤ p
  · by_cases h2 : p < st + cs.length
    · simp only [f__law_spread_cell, F__law_spread_cell, ev_seq, kSeq_nx, kSeq_rt, kSeq_bk, kSeq_ct, kSeq_ex, ev_nil, ev_pass, ev_break, ev_cont, ev_retn, ev_fg, fgt_nil, fgt_cons, ev_gh, kGh_some, ev_gfrz, kFrz_some, ev_gown, kOwn_full, kOwn_own, kOwn_val, ev_setZ, kSetZ_val, kSetZ_own, kSetZ_full, kSetZ_ex, ev_set, kSet_val, kSet_own, kSet_full, kSet_ex, ev_ret, kRet_val, kRet_own, kRet_full, kRet_ex, ev_retO, kRetO_own, kRetO_val, kRetO_full, ev_expr, kExpr_ok, kExpr_ex, ev_if, kIf_true, kIf_false, ev_for, kFor_ok, ev_while, ev_turn, kTurn1_some, kTurn_nx, kTurn_ct, kTurn_bk, kTurn_rt, kTurn_ex, ev_wturn, kW_true, kW_false, ev_gN, ev_gT, kT_some, itemsT_val, gSets_nil, gSets_val, mkv_int, mkv_bool, mkv_str, mkv_none, mkv_list, mkv_tuple, ev_unp, kUnp_val, kUnp_full, kU_some, ev_aug, kAug_val, kA_some, ev_app, kApp_val, kApp_own, kApp_full, ev_put, kPut_val, callF_eq, entE_nil, unds_succ, unds_zero, entE_cons, entS_int, entS_bool, entS_str, entS_none, entS_list, entS_tuple, kF_nx, kF_rt, kF_ex, frOf_val, frOf_own, frOf_full, ev_var, kVar_val, kVar_own, kVar_full, ev_c, ev_e2, k2_ok, okO_some, ev_e1, k1_ok, frz_val, frz_own, frz_full, frz_bor, frz_brf, dat_val, dat_bor, dat_brf, ev_evs0, ev_evs, kC_ok, ev_cb, kCB_ok, ev_call, kCall_ok, ev_cres, kRs_some, kRes_int, kRes_bool, kRes_str, kRes_none, kRes_list, kRes_tuple, kRes_false, kRes_exc, dats_nil, dats_cons, kD_some, isVal_val, isVal_bor, isVal_brf, ev_isa, kIsa_val, kIsa_own, kIsa_bor, kIsa_full, kIsa_brf, ev_and, kAnd_val, kAnd2_true, kAnd2_false, kAnd2_val, ev_or, kOr_val, kOr2_true, kOr2_false, kOr2_val, ev_not, kNot_val, ev_ife, kIfE_true, kIfE_false, ev_bof, kB_val, ev_tof, kTo_val, kTo_own, kTo_bor, kTo_full, kTo_brf, okB_some, truth_bool, truth_int, truth_none, truth_list, truth_tuple, ev_bnot, kNotB_ok, ev_band, kAndB_ok, kAndB2_true, kAndB2_false, kAndB2_ok, ev_bor, kOrB_ok, kOrB2_true, kOrB2_false, kOrB2_ok, ev_chain, kCh_ok, kCh2_false, kCh2_true, ev_fD, kD2_some, kS_int, kS_bool, kS_str, kS_none, ev_sub, ev_addI, ev_iadd, ev_div, ev_mod, ev_pow, ev_mulI, ev_neg, ev_eqI, ev_neI, ev_ltI, ev_leI, ev_gtI, ev_geI, ev_fD1, kD1_some, ev_int, ev_intb, ev_abs, ev_lenL, ev_lenT, ev_fI2, ev_catVV, ev_repV, ev_list, kLst_ok, ev_tup, kTup_ok, kMk_some, kMkT_some, stors_nil, stors_cons, kSt_some, stor_val, ev_ixL, ev_ixT, ev_ixB, atI_cast, atI_0, atI_1, atI_2, atI_3, atI_4, atI_5, atI_6, atI_7, ev_slice, kSl_val, kSl_own, kSl_bor, kSl_full, ev_pN, ev_pS, kP_int, ev_rev, ev_ls, ev_lsT, ev_tl, all_scal, ev_sorted, kSo_some, ev_iL, kIL_val, kIL_own, kIL_full, ev_iR, kR_1, kR_2, map_mkv_int, mkI_eq, rngI_eq, mkN_eq, ev_iR3, kR3_ok, rngC_eq, mkC_eq, ev_iM, kM_ok, kM2_some, mkEn_val, mkTp_val, ev_iZp, kZp_ok, mkZp_val, ev_lc, kLc_ok, kLcM_some, wipeE_nil, wipeE_cons, ev_byes, kE_val, kE_own, kE_full, kEl_some, kTl_some, ev_appAt, kAppAt_tuple, kAppAt_list, kAA_ok, ev_andI, ev_orI, ev_shr, ev_shl, List.getElem?_cons_zero, List.getElem?_cons_succ, List.set_cons_zero, List.set_cons_succ, List.all_nil, List.all_cons, Bool.and_true, Bool.true_and, Bool.or_true, Bool.true_or, Bool.or_false, Bool.false_or, Bool.and_false, Bool.false_and, Bool.not_true, Bool.not_false, Option.map_some, List.length_nil, List.length_cons, List.length_map, List.nil_append, List.map_cons, List.map_nil, scal_int, scal_bool, scal_str, scal_none, scal_list, scal_tuple, cd_true, cd_false, not_true_eq_false, not_false_eq_true, Nat.zero_le, and_self, true_and, and_true, ne_eq, not_false_eq_true, reduceIte, Nat.reduceLT, Nat.reduceLeDiff, Nat.reduceAdd, Nat.reduceMul, Nat.reduceSub, Nat.reduceEqDiff, Int.reduceLT, Int.reduceLE, Int.reduceAdd, Int.reduceSub, Int.reduceMul, Int.reduceNeg, Int.reduceToNat, Int.reduceEq, Int.reduceAbs, Int.reducePow, h1, h2, at_sc (b := b) h1 h2]
    · simp only [f__law_spread_cell, F__law_spread_cell, ev_seq, kSeq_nx, kSeq_rt, kSeq_bk, kSeq_ct, kSeq_ex, ev_nil, ev_pass, ev_break, ev_cont, ev_retn, ev_fg, fgt_nil, fgt_cons, ev_gh, kGh_some, ev_gfrz, kFrz_some, ev_gown, kOwn_full, kOwn_own, kOwn_val, ev_setZ, kSetZ_val, kSetZ_own, kSetZ_full, kSetZ_ex, ev_set, kSet_val, kSet_own, kSet_full, kSet_ex, ev_ret, kRet_val, kRet_own, kRet_full, kRet_ex, ev_retO, kRetO_own, kRetO_val, kRetO_full, ev_expr, kExpr_ok, kExpr_ex, ev_if, kIf_true, kIf_false, ev_for, kFor_ok, ev_while, ev_turn, kTurn1_some, kTurn_nx, kTurn_ct, kTurn_bk, kTurn_rt, kTurn_ex, ev_wturn, kW_true, kW_false, ev_gN, ev_gT, kT_some, itemsT_val, gSets_nil, gSets_val, mkv_int, mkv_bool, mkv_str, mkv_none, mkv_list, mkv_tuple, ev_unp, kUnp_val, kUnp_full, kU_some, ev_aug, kAug_val, kA_some, ev_app, kApp_val, kApp_own, kApp_full, ev_put, kPut_val, callF_eq, entE_nil, unds_succ, unds_zero, entE_cons, entS_int, entS_bool, entS_str, entS_none, entS_list, entS_tuple, kF_nx, kF_rt, kF_ex, frOf_val, frOf_own, frOf_full, ev_var, kVar_val, kVar_own, kVar_full, ev_c, ev_e2, k2_ok, okO_some, ev_e1, k1_ok, frz_val, frz_own, frz_full, frz_bor, frz_brf, dat_val, dat_bor, dat_brf, ev_evs0, ev_evs, kC_ok, ev_cb, kCB_ok, ev_call, kCall_ok, ev_cres, kRs_some, kRes_int, kRes_bool, kRes_str, kRes_none, kRes_list, kRes_tuple, kRes_false, kRes_exc, dats_nil, dats_cons, kD_some, isVal_val, isVal_bor, isVal_brf, ev_isa, kIsa_val, kIsa_own, kIsa_bor, kIsa_full, kIsa_brf, ev_and, kAnd_val, kAnd2_true, kAnd2_false, kAnd2_val, ev_or, kOr_val, kOr2_true, kOr2_false, kOr2_val, ev_not, kNot_val, ev_ife, kIfE_true, kIfE_false, ev_bof, kB_val, ev_tof, kTo_val, kTo_own, kTo_bor, kTo_full, kTo_brf, okB_some, truth_bool, truth_int, truth_none, truth_list, truth_tuple, ev_bnot, kNotB_ok, ev_band, kAndB_ok, kAndB2_true, kAndB2_false, kAndB2_ok, ev_bor, kOrB_ok, kOrB2_true, kOrB2_false, kOrB2_ok, ev_chain, kCh_ok, kCh2_false, kCh2_true, ev_fD, kD2_some, kS_int, kS_bool, kS_str, kS_none, ev_sub, ev_addI, ev_iadd, ev_div, ev_mod, ev_pow, ev_mulI, ev_neg, ev_eqI, ev_neI, ev_ltI, ev_leI, ev_gtI, ev_geI, ev_fD1, kD1_some, ev_int, ev_intb, ev_abs, ev_lenL, ev_lenT, ev_fI2, ev_catVV, ev_repV, ev_list, kLst_ok, ev_tup, kTup_ok, kMk_some, kMkT_some, stors_nil, stors_cons, kSt_some, stor_val, ev_ixL, ev_ixT, ev_ixB, atI_cast, atI_0, atI_1, atI_2, atI_3, atI_4, atI_5, atI_6, atI_7, ev_slice, kSl_val, kSl_own, kSl_bor, kSl_full, ev_pN, ev_pS, kP_int, ev_rev, ev_ls, ev_lsT, ev_tl, all_scal, ev_sorted, kSo_some, ev_iL, kIL_val, kIL_own, kIL_full, ev_iR, kR_1, kR_2, map_mkv_int, mkI_eq, rngI_eq, mkN_eq, ev_iR3, kR3_ok, rngC_eq, mkC_eq, ev_iM, kM_ok, kM2_some, mkEn_val, mkTp_val, ev_iZp, kZp_ok, mkZp_val, ev_lc, kLc_ok, kLcM_some, wipeE_nil, wipeE_cons, ev_byes, kE_val, kE_own, kE_full, kEl_some, kTl_some, ev_appAt, kAppAt_tuple, kAppAt_list, kAA_ok, ev_andI, ev_orI, ev_shr, ev_shl, List.getElem?_cons_zero, List.getElem?_cons_succ, List.set_cons_zero, List.set_cons_succ, List.all_nil, List.all_cons, Bool.and_true, Bool.true_and, Bool.or_true, Bool.true_or, Bool.or_false, Bool.false_or, Bool.and_false, Bool.false_and, Bool.not_true, Bool.not_false, Option.map_some, List.length_nil, List.length_cons, List.length_map, List.nil_append, List.map_cons, List.map_nil, scal_int, scal_bool, scal_str, scal_none, scal_list, scal_tuple, cd_true, cd_false, not_true_eq_false, not_false_eq_true, Nat.zero_le, and_self, true_and, and_true, ne_eq, not_false_eq_true, reduceIte, Nat.reduceLT, Nat.reduceLeDiff, Nat.reduceAdd, Nat.reduceMul, Nat.reduceSub, Nat.reduceEqDiff, Int.reduceLT, Int.reduceLE, Int.reduceAdd, Int.reduceSub, Int.reduceMul, Int.reduceNeg, Int.reduceToNat, Int.reduceEq, Int.reduceAbs, Int.reducePow, h1, h2]
      rw [sc_out (by omega)]
  · simp only [f__law_spread_cell, F__law_spread_cell, ev_seq, kSeq_nx, kSeq_rt, kSeq_bk, kSeq_ct, kSeq_ex, ev_nil, ev_pass, ev_break, ev_cont, ev_retn, ev_fg, fgt_nil, fgt_cons, ev_gh, kGh_some, ev_gfrz, kFrz_some, ev_gown, kOwn_full, kOwn_own, kOwn_val, ev_setZ, kSetZ_val, kSetZ_own, kSetZ_full, kSetZ_ex, ev_set, kSet_val, kSet_own, kSet_full, kSet_ex, ev_ret, kRet_val, kRet_own, kRet_full, kRet_ex, ev_retO, kRetO_own, kRetO_val, kRetO_full, ev_expr, kExpr_ok, kExpr_ex, ev_if, kIf_true, kIf_false, ev_for, kFor_ok, ev_while, ev_turn, kTurn1_some, kTurn_nx, kTurn_ct, kTurn_bk, kTurn_rt, kTurn_ex, ev_wturn, kW_true, kW_false, ev_gN, ev_gT, kT_some, itemsT_val, gSets_nil, gSets_val, mkv_int, mkv_bool, mkv_str, mkv_none, mkv_list, mkv_tuple, ev_unp, kUnp_val, kUnp_full, kU_some, ev_aug, kAug_val, kA_some, ev_app, kApp_val, kApp_own, kApp_full, ev_put, kPut_val, callF_eq, entE_nil, unds_succ, unds_zero, entE_cons, entS_int, entS_bool, entS_str, entS_none, entS_list, entS_tuple, kF_nx, kF_rt, kF_ex, frOf_val, frOf_own, frOf_full, ev_var, kVar_val, kVar_own, kVar_full, ev_c, ev_e2, k2_ok, okO_some, ev_e1, k1_ok, frz_val, frz_own, frz_full, frz_bor, frz_brf, dat_val, dat_bor, dat_brf, ev_evs0, ev_evs, kC_ok, ev_cb, kCB_ok, ev_call, kCall_ok, ev_cres, kRs_some, kRes_int, kRes_bool, kRes_str, kRes_none, kRes_list, kRes_tuple, kRes_false, kRes_exc, dats_nil, dats_cons, kD_some, isVal_val, isVal_bor, isVal_brf, ev_isa, kIsa_val, kIsa_own, kIsa_bor, kIsa_full, kIsa_brf, ev_and, kAnd_val, kAnd2_true, kAnd2_false, kAnd2_val, ev_or, kOr_val, kOr2_true, kOr2_false, kOr2_val, ev_not, kNot_val, ev_ife, kIfE_true, kIfE_false, ev_bof, kB_val, ev_tof, kTo_val, kTo_own, kTo_bor, kTo_full, kTo_brf, okB_some, truth_bool, truth_int, truth_none, truth_list, truth_tuple, ev_bnot, kNotB_ok, ev_band, kAndB_ok, kAndB2_true, kAndB2_false, kAndB2_ok, ev_bor, kOrB_ok, kOrB2_true, kOrB2_false, kOrB2_ok, ev_chain, kCh_ok, kCh2_false, kCh2_true, ev_fD, kD2_some, kS_int, kS_bool, kS_str, kS_none, ev_sub, ev_addI, ev_iadd, ev_div, ev_mod, ev_pow, ev_mulI, ev_neg, ev_eqI, ev_neI, ev_ltI, ev_leI, ev_gtI, ev_geI, ev_fD1, kD1_some, ev_int, ev_intb, ev_abs, ev_lenL, ev_lenT, ev_fI2, ev_catVV, ev_repV, ev_list, kLst_ok, ev_tup, kTup_ok, kMk_some, kMkT_some, stors_nil, stors_cons, kSt_some, stor_val, ev_ixL, ev_ixT, ev_ixB, atI_cast, atI_0, atI_1, atI_2, atI_3, atI_4, atI_5, atI_6, atI_7, ev_slice, kSl_val, kSl_own, kSl_bor, kSl_full, ev_pN, ev_pS, kP_int, ev_rev, ev_ls, ev_lsT, ev_tl, all_scal, ev_sorted, kSo_some, ev_iL, kIL_val, kIL_own, kIL_full, ev_iR, kR_1, kR_2, map_mkv_int, mkI_eq, rngI_eq, mkN_eq, ev_iR3, kR3_ok, rngC_eq, mkC_eq, ev_iM, kM_ok, kM2_some, mkEn_val, mkTp_val, ev_iZp, kZp_ok, mkZp_val, ev_lc, kLc_ok, kLcM_some, wipeE_nil, wipeE_cons, ev_byes, kE_val, kE_own, kE_full, kEl_some, kTl_some, ev_appAt, kAppAt_tuple, kAppAt_list, kAA_ok, ev_andI, ev_orI, ev_shr, ev_shl, List.getElem?_cons_zero, List.getElem?_cons_succ, List.set_cons_zero, List.set_cons_succ, List.all_nil, List.all_cons, Bool.and_true, Bool.true_and, Bool.or_true, Bool.true_or, Bool.or_false, Bool.false_or, Bool.and_false, Bool.false_and, Bool.not_true, Bool.not_false, Option.map_some, List.length_nil, List.length_cons, List.length_map, List.nil_append, List.map_cons, List.map_nil, scal_int, scal_bool, scal_str, scal_none, scal_list, scal_tuple, cd_true, cd_false, not_true_eq_false, not_false_eq_true, Nat.zero_le, and_self, true_and, and_true, ne_eq, not_false_eq_true, reduceIte, Nat.reduceLT, Nat.reduceLeDiff, Nat.reduceAdd, Nat.reduceMul, Nat.reduceSub, Nat.reduceEqDiff, Int.reduceLT, Int.reduceLE, Int.reduceAdd, Int.reduceSub, Int.reduceMul, Int.reduceNeg, Int.reduceToNat, Int.reduceEq, Int.reduceAbs, Int.reducePow, h1]
    rw [sc_out (by omega)]
/-! images of spread rows -/
def swin (b st : Int) (cs : List Int) (p : Int) (w : Nat) : List Int := (List.range w).map fun (j : Nat) => sc b st cs (p + (j : Int))
def rawC (s w : Nat) (t : List Int) (b st : Int) (cs : List Int) : List Int := (List.range (cs.length + w - 1)).map fun (k : Nat) => newC s t (swin b st cs (st - w + 1 + (k : Int)) w)
theorem swin_len (b st : Int) (cs : List Int) (p : Int) (w : Nat) : (swin b st cs p w).length = w := by unfold swin; rw [List.length_map, List.length_range]
theorem swin_get {b st : Int} {cs : List Int} {p : Int} {w i : Nat} (h : i < w) : (swin b st cs p w)[i]? = some (sc b st cs (p + (i : Int))) := by
  unfold swin
  rw [List.getElem?_map, List.getElem?_eq_getElem (by rw [List.length_range]; exact h), List.getElem_range]; rfl
theorem raw_get {s w : Nat} {t : List Int} {b st : Int} {cs : List Int} {k : Nat} (h : k < cs.length + w - 1) : (rawC s w t b st cs)[k]? = some (newC s t (swin b st cs (st - w + 1 + (k : Int)) w)) := by
  unfold rawC
  rw [List.getElem?_map, List.getElem?_eq_getElem (by rw [List.length_range]; exact h), List.getElem_range]; rfl
theorem swin_in {b st : Int} {cs : List Int} {P : Int → Prop} (hb : P b) (h : ∀ c ∈ cs, P c) (p : Int) (w : Nat) : ∀ c ∈ swin b st cs p w, P c := fun c hc => by
  unfold swin at hc
  obtain ⟨j, -, rfl⟩ := List.mem_map.mp hc
  exact sc_in hb h _
theorem swin_congr {b st st' : Int} {cs cs' : List Int} (h : ∀ p, sc b st cs p = sc b st' cs' p) (p : Int) (w : Nat) : swin b st cs p w = swin b st' cs' p w := by
  unfold swin
  exact List.map_congr_left fun j _ => h _
theorem swin_out {b st : Int} {cs : List Int} {p : Int} {w : Nat} (h : p + w ≤ st ∨ st + cs.length ≤ p) : swin b st cs p w = List.replicate w b := by
  unfold swin
  refine List.ext_getElem (by rw [List.length_map, List.length_range, List.length_replicate]) fun i h1 h2 => ?_
  rw [List.length_replicate] at h2
  rw [List.getElem_map, List.getElem_range, List.getElem_replicate]
  exact sc_out (by omega)
theorem pad_at {b st : Int} {cs : List Int} {n i : Nat} (h : i < cs.length + 2 * n) : (List.replicate n b ++ cs ++ List.replicate n b)[i]? = some (sc b st cs (st - n + i)) := by
  by_cases h1 : i < n
  · rw [List.append_assoc, List.getElem?_append_left (by rw [List.length_replicate]; exact h1), List.getElem?_replicate, if_pos h1, sc_out (by omega)]
  · by_cases h2 : i < n + cs.length
    · rw [List.getElem?_append_left (by rw [List.length_append, List.length_replicate]; exact h2), List.getElem?_append_right (by rw [List.length_replicate]; omega), List.length_replicate, List.getElem?_eq_getElem (by omega),
        show st - (n : Int) + (i : Int) = st + ((i - n : Nat) : Int) by omega, sc_at (by omega)]
    · rw [List.getElem?_append_right (by rw [List.length_append, List.length_replicate]; omega), List.length_append, List.length_replicate, List.getElem?_replicate, if_pos (by omega), sc_out (by omega)]
theorem pad_win {b st : Int} {cs : List Int} {w k : Nat} (hw : 1 ≤ w) (h : k < cs.length + w - 1) : ((List.replicate (w - 1) b ++ cs ++ List.replicate (w - 1) b).drop k).take w = swin b st cs (st - w + 1 + k) w := by
  have lp : (List.replicate (w - 1) b ++ cs ++ List.replicate (w - 1) b).length = cs.length + 2 * (w - 1) := by rw [List.length_append, List.length_append, List.length_replicate]; omega
  refine List.ext_getElem (by rw [swin_len, List.length_take, List.length_drop, lp]; omega) fun i h1 h2 => ?_
  have h2' := h2
  rw [swin_len] at h2
  have e1 := pad_at (b := b) (st := st) (cs := cs) (n := w - 1) (i := k + i) (by omega)
  rw [List.getElem_take, List.getElem_drop]
  rw [List.getElem?_eq_getElem (by rw [lp]; omega)] at e1
  have e2 := swin_get (b := b) (st := st) (cs := cs) (p := st - w + 1 + (k : Int)) h2
  rw [List.getElem?_eq_getElem h2'] at e2
  rw [Option.some.inj e1, Option.some.inj e2]
  congr 1
  omega
theorem raw_apply {s w : Nat} {t : List Int} {b st : Int} {cs : List Int} (hw : 1 ≤ w) : applyL s w t (List.replicate (w - 1) b ++ cs ++ List.replicate (w - 1) b) = rawC s w t b st cs := by
  have lp : (List.replicate (w - 1) b ++ cs ++ List.replicate (w - 1) b).length + 1 - w = cs.length + w - 1 := by rw [List.length_append, List.length_append, List.length_replicate]; omega
  unfold applyL wins rawC
  rw [List.map_map, lp]
  refine List.map_congr_left fun k hk => ?_
  rw [List.mem_range] at hk
  show newC s t (((List.replicate (w - 1) b ++ cs ++ List.replicate (w - 1) b).drop k).take w) = _
  rw [pad_win (st := st) hw hk]
/-- the raw image's cells -/
theorem raw_sc {s w : Nat} {o : Int} {t : List Int} {b st : Int} {cs : List Int} (hw : 1 ≤ w) (p : Int) : sc (newC s t (List.replicate w b)) (st - o - w + 1) (rawC s w t b st cs) p = newC s t (swin b st cs (p + o) w) := by
  have lr : (rawC s w t b st cs).length = cs.length + w - 1 := by unfold rawC; rw [List.length_map, List.length_range]
  by_cases hp : st - o - w + 1 ≤ p ∧ p < st - o - w + 1 + (rawC s w t b st cs).length
  · obtain ⟨k, hk⟩ : ∃ k : Nat, p = st - o - w + 1 + k := ⟨(p - (st - o - w + 1)).toNat, by omega⟩
    have kl : k < (rawC s w t b st cs).length := by omega
    have e2 := raw_get (s := s) (t := t) (b := b) (st := st) (cs := cs) (w := w) (k := k) (by omega)
    rw [List.getElem?_eq_getElem kl] at e2
    rw [hk, sc_at kl, Option.some.inj e2]
    congr 2
    omega
  · rw [sc_out hp, swin_out (by omega)]
theorem raw_in {s w : Nat} {t : List Int} {b st : Int} {cs : List Int} (hs : 0 < s) (h : ∀ c ∈ t, 0 ≤ c ∧ c < (s : Int)) : ∀ c ∈ rawC s w t b st cs, 0 ≤ c ∧ c < (s : Int) := fun c hc => by
  unfold rawC at hc
  obtain ⟨k, -, rfl⟩ := List.mem_map.mp hc
  exact newC_in hs h _
theorem raw_len (s w : Nat) (t : List Int) (b st : Int) (cs : List Int) : (rawC s w t b st cs).length = cs.length + w - 1 := by unfold rawC; rw [List.length_map, List.length_range]
theorem rep_in {P : Int → Prop} {b : Int} (h : P b) (n : Nat) : ∀ c ∈ List.replicate n b, P c := fun c hc => by rw [List.eq_of_mem_replicate hc]; exact h
def F_spread_image : SF := (sSeq (sUnp [2, 3, 4, 2] (eVar 0))
  (sSeq (sUnp [5, 6, 7] (eVar 1))
  (sSeq (sSetZ 8 (e2 fMul (eList [(eVar 5)]) (e2 (fD gSub) (eVar 4) (eC (.int 1)))))
  (sSeq (sSetZ 9 (eCall PF.f_apply_word [(eVar 0), (e2 fAdd (e2 fAdd (eVar 8) (eVar 7)) (eVar 8))]))
  (sRet (eCall PF.f_spread_simple [(eTup [(eCall PF.f_new_cell [(eVar 0), (e2 fMul (eList [(eVar 5)]) (eVar 4))]), (e2 (fD gSub) (e2 fAdd (e2 (fD gSub) (eVar 6) (eVar 4)) (eC (.int 1))) (eVar 3)), (eVar 9)])]))))))
def f_spread_image : FN := callF 10 F_spread_image
theorem spread_image_ok {s w : Nat} {o : Int} {t : List Int} {b st : Int} {cs : List Int} (hs : 0 < s) (hs' : s < 18446744073709551616) (ht : t.length = s ^ w) (hb : 0 ≤ b ∧ b < (s : Int)) (hx : ∀ c ∈ cs, 0 ≤ c ∧ c < (s : Int)) (hl : cs.length < 10000000) (hw : 1 ≤ w) (hw' : w < 1000000) :
    SimpOf (newC s t (List.replicate w b)) (st - o - w + 1) (rawC s w t b st cs) (f_spread_image [mapD s o w t, spD b st cs]) := by
  have ap := apply_word_ok (o := o) (xs := List.replicate (w - 1) b ++ cs ++ List.replicate (w - 1) b) hs hs' ht (fun c hc => by
    rcases List.mem_append.mp hc with h | h
    · rcases List.mem_append.mp h with h | h
      · exact rep_in (P := fun c => 0 ≤ c ∧ c < (s : Int)) hb _ c h
      · exact hx c h
    · exact rep_in (P := fun c => 0 ≤ c ∧ c < (s : Int)) hb _ c h) (by rw [List.length_append, List.length_append, List.length_replicate]; omega) (by omega)
  rw [raw_apply (st := st) hw, List.map_append, List.map_append, List.map_replicate] at ap
  have nc := new_cell_ok (o := o) (ws := List.replicate w b) hs hs' ht List.length_replicate (rep_in (P := fun c => 0 ≤ c ∧ c < (s : Int)) hb w)
  rw [List.map_replicate] at nc
  have SS := spread_simple_ok (b := newC s t (List.replicate w b)) (st := st - w + 1 - o) (cs := rawC s w t b st cs) (by rw [raw_len]; omega)
  rw [show st - (w : Int) + 1 - o = st - o - w + 1 by omega] at SS
  obtain ⟨st', cs', e1, e2⟩ := SS
  refine ⟨st', cs', ?_, e2⟩
  have z1 : ((w : Int) - 1) = ((w - 1 : Nat) : Int) := by omega
  have b1 : (-9223372036854775808 : Int) ≤ ((w - 1 : Nat) : Int) := by omega
  have b2 : ((w - 1 : Nat) : Int) < 9223372036854775808 := by omega
  have b3 : 1 * (w - 1) ≤ 16777216 := by omega
  have b4 : (-9223372036854775808 : Int) ≤ (w : Int) := by omega
  have b5 : (w : Int) < 9223372036854775808 := by omega
  have b6 : 1 * w ≤ 16777216 := by omega
  have b7 : w - 1 + cs.length ≤ 16777216 := by omega
  have b8 : w - 1 + cs.length + (w - 1) ≤ 16777216 := by omega
  have ez : st - (w : Int) + 1 - o = st - o - w + 1 := by omega
  simp only [f_spread_image, F_spread_image, ev_seq, kSeq_nx, kSeq_rt, kSeq_bk, kSeq_ct, kSeq_ex, ev_nil, ev_pass, ev_break, ev_cont, ev_retn, ev_fg, fgt_nil, fgt_cons, ev_gh, kGh_some, ev_gfrz, kFrz_some, ev_gown, kOwn_full, kOwn_own, kOwn_val, ev_setZ, kSetZ_val, kSetZ_own, kSetZ_full, kSetZ_ex, ev_set, kSet_val, kSet_own, kSet_full, kSet_ex, ev_ret, kRet_val, kRet_own, kRet_full, kRet_ex, ev_retO, kRetO_own, kRetO_val, kRetO_full, ev_expr, kExpr_ok, kExpr_ex, ev_if, kIf_true, kIf_false, ev_for, kFor_ok, ev_while, ev_turn, kTurn1_some, kTurn_nx, kTurn_ct, kTurn_bk, kTurn_rt, kTurn_ex, ev_wturn, kW_true, kW_false, ev_gN, ev_gT, kT_some, itemsT_val, gSets_nil, gSets_val, mkv_int, mkv_bool, mkv_str, mkv_none, mkv_list, mkv_tuple, ev_unp, kUnp_val, kUnp_full, kU_some, ev_aug, kAug_val, kA_some, ev_app, kApp_val, kApp_own, kApp_full, ev_put, kPut_val, callF_eq, entE_nil, unds_succ, unds_zero, entE_cons, entS_int, entS_bool, entS_str, entS_none, entS_list, entS_tuple, kF_nx, kF_rt, kF_ex, frOf_val, frOf_own, frOf_full, ev_var, kVar_val, kVar_own, kVar_full, ev_c, ev_e2, k2_ok, okO_some, ev_e1, k1_ok, frz_val, frz_own, frz_full, frz_bor, frz_brf, dat_val, dat_bor, dat_brf, ev_evs0, ev_evs, kC_ok, ev_cb, kCB_ok, ev_call, kCall_ok, ev_cres, kRs_some, kRes_int, kRes_bool, kRes_str, kRes_none, kRes_list, kRes_tuple, kRes_false, kRes_exc, dats_nil, dats_cons, kD_some, isVal_val, isVal_bor, isVal_brf, ev_isa, kIsa_val, kIsa_own, kIsa_bor, kIsa_full, kIsa_brf, ev_and, kAnd_val, kAnd2_true, kAnd2_false, kAnd2_val, ev_or, kOr_val, kOr2_true, kOr2_false, kOr2_val, ev_not, kNot_val, ev_ife, kIfE_true, kIfE_false, ev_bof, kB_val, ev_tof, kTo_val, kTo_own, kTo_bor, kTo_full, kTo_brf, okB_some, truth_bool, truth_int, truth_none, truth_list, truth_tuple, ev_bnot, kNotB_ok, ev_band, kAndB_ok, kAndB2_true, kAndB2_false, kAndB2_ok, ev_bor, kOrB_ok, kOrB2_true, kOrB2_false, kOrB2_ok, ev_chain, kCh_ok, kCh2_false, kCh2_true, ev_fD, kD2_some, kS_int, kS_bool, kS_str, kS_none, ev_sub, ev_addI, ev_iadd, ev_div, ev_mod, ev_pow, ev_mulI, ev_neg, ev_eqI, ev_neI, ev_ltI, ev_leI, ev_gtI, ev_geI, ev_fD1, kD1_some, ev_int, ev_intb, ev_abs, ev_lenL, ev_lenT, ev_fI2, ev_catVV, ev_repV, ev_list, kLst_ok, ev_tup, kTup_ok, kMk_some, kMkT_some, stors_nil, stors_cons, kSt_some, stor_val, ev_ixL, ev_ixT, ev_ixB, atI_cast, atI_0, atI_1, atI_2, atI_3, atI_4, atI_5, atI_6, atI_7, ev_slice, kSl_val, kSl_own, kSl_bor, kSl_full, ev_pN, ev_pS, kP_int, ev_rev, ev_ls, ev_lsT, ev_tl, all_scal, ev_sorted, kSo_some, ev_iL, kIL_val, kIL_own, kIL_full, ev_iR, kR_1, kR_2, map_mkv_int, mkI_eq, rngI_eq, mkN_eq, ev_iR3, kR3_ok, rngC_eq, mkC_eq, ev_iM, kM_ok, kM2_some, mkEn_val, mkTp_val, ev_iZp, kZp_ok, mkZp_val, ev_lc, kLc_ok, kLcM_some, wipeE_nil, wipeE_cons, ev_byes, kE_val, kE_own, kE_full, kEl_some, kTl_some, ev_appAt, kAppAt_tuple, kAppAt_list, kAA_ok, ev_andI, ev_orI, ev_shr, ev_shl, List.getElem?_cons_zero, List.getElem?_cons_succ, List.set_cons_zero, List.set_cons_succ, List.all_nil, List.all_cons, Bool.and_true, Bool.true_and, Bool.or_true, Bool.true_or, Bool.or_false, Bool.false_or, Bool.and_false, Bool.false_and, Bool.not_true, Bool.not_false, Option.map_some, List.length_nil, List.length_cons, List.length_map, List.nil_append, List.map_cons, List.map_nil, scal_int, scal_bool, scal_str, scal_none, scal_list, scal_tuple, cd_true, cd_false, not_true_eq_false, not_false_eq_true, Nat.zero_le, and_self, true_and, and_true, ne_eq, not_false_eq_true, reduceIte, Nat.reduceLT, Nat.reduceLeDiff, Nat.reduceAdd, Nat.reduceMul, Nat.reduceSub, Nat.reduceEqDiff, Int.reduceLT, Int.reduceLE, Int.reduceAdd, Int.reduceSub, Int.reduceMul, Int.reduceNeg, Int.reduceToNat, Int.reduceEq, Int.reduceAbs, Int.reducePow, z1, flat_rep, Int.toNat_natCast, b1, b2, b3, b4, b5, b6, List.length_replicate, List.length_append, b7, b8, all_scal, ap, nc, ez]
  simp only [ev_seq, kSeq_nx, kSeq_rt, kSeq_bk, kSeq_ct, kSeq_ex, ev_nil, ev_pass, ev_break, ev_cont, ev_retn, ev_fg, fgt_nil, fgt_cons, ev_gh, kGh_some, ev_gfrz, kFrz_some, ev_gown, kOwn_full, kOwn_own, kOwn_val, ev_setZ, kSetZ_val, kSetZ_own, kSetZ_full, kSetZ_ex, ev_set, kSet_val, kSet_own, kSet_full, kSet_ex, ev_ret, kRet_val, kRet_own, kRet_full, kRet_ex, ev_retO, kRetO_own, kRetO_val, kRetO_full, ev_expr, kExpr_ok, kExpr_ex, ev_if, kIf_true, kIf_false, ev_for, kFor_ok, ev_while, ev_turn, kTurn1_some, kTurn_nx, kTurn_ct, kTurn_bk, kTurn_rt, kTurn_ex, ev_wturn, kW_true, kW_false, ev_gN, ev_gT, kT_some, itemsT_val, gSets_nil, gSets_val, mkv_int, mkv_bool, mkv_str, mkv_none, mkv_list, mkv_tuple, ev_unp, kUnp_val, kUnp_full, kU_some, ev_aug, kAug_val, kA_some, ev_app, kApp_val, kApp_own, kApp_full, ev_put, kPut_val, callF_eq, entE_nil, unds_succ, unds_zero, entE_cons, entS_int, entS_bool, entS_str, entS_none, entS_list, entS_tuple, kF_nx, kF_rt, kF_ex, frOf_val, frOf_own, frOf_full, ev_var, kVar_val, kVar_own, kVar_full, ev_c, ev_e2, k2_ok, okO_some, ev_e1, k1_ok, frz_val, frz_own, frz_full, frz_bor, frz_brf, dat_val, dat_bor, dat_brf, ev_evs0, ev_evs, kC_ok, ev_cb, kCB_ok, ev_call, kCall_ok, ev_cres, kRs_some, kRes_int, kRes_bool, kRes_str, kRes_none, kRes_list, kRes_tuple, kRes_false, kRes_exc, dats_nil, dats_cons, kD_some, isVal_val, isVal_bor, isVal_brf, ev_isa, kIsa_val, kIsa_own, kIsa_bor, kIsa_full, kIsa_brf, ev_and, kAnd_val, kAnd2_true, kAnd2_false, kAnd2_val, ev_or, kOr_val, kOr2_true, kOr2_false, kOr2_val, ev_not, kNot_val, ev_ife, kIfE_true, kIfE_false, ev_bof, kB_val, ev_tof, kTo_val, kTo_own, kTo_bor, kTo_full, kTo_brf, okB_some, truth_bool, truth_int, truth_none, truth_list, truth_tuple, ev_bnot, kNotB_ok, ev_band, kAndB_ok, kAndB2_true, kAndB2_false, kAndB2_ok, ev_bor, kOrB_ok, kOrB2_true, kOrB2_false, kOrB2_ok, ev_chain, kCh_ok, kCh2_false, kCh2_true, ev_fD, kD2_some, kS_int, kS_bool, kS_str, kS_none, ev_sub, ev_addI, ev_iadd, ev_div, ev_mod, ev_pow, ev_mulI, ev_neg, ev_eqI, ev_neI, ev_ltI, ev_leI, ev_gtI, ev_geI, ev_fD1, kD1_some, ev_int, ev_intb, ev_abs, ev_lenL, ev_lenT, ev_fI2, ev_catVV, ev_repV, ev_list, kLst_ok, ev_tup, kTup_ok, kMk_some, kMkT_some, stors_nil, stors_cons, kSt_some, stor_val, ev_ixL, ev_ixT, ev_ixB, atI_cast, atI_0, atI_1, atI_2, atI_3, atI_4, atI_5, atI_6, atI_7, ev_slice, kSl_val, kSl_own, kSl_bor, kSl_full, ev_pN, ev_pS, kP_int, ev_rev, ev_ls, ev_lsT, ev_tl, all_scal, ev_sorted, kSo_some, ev_iL, kIL_val, kIL_own, kIL_full, ev_iR, kR_1, kR_2, map_mkv_int, mkI_eq, rngI_eq, mkN_eq, ev_iR3, kR3_ok, rngC_eq, mkC_eq, ev_iM, kM_ok, kM2_some, mkEn_val, mkTp_val, ev_iZp, kZp_ok, mkZp_val, ev_lc, kLc_ok, kLcM_some, wipeE_nil, wipeE_cons, ev_byes, kE_val, kE_own, kE_full, kEl_some, kTl_some, ev_appAt, kAppAt_tuple, kAppAt_list, kAA_ok, ev_andI, ev_orI, ev_shr, ev_shl, List.getElem?_cons_zero, List.getElem?_cons_succ, List.set_cons_zero, List.set_cons_succ, List.all_nil, List.all_cons, Bool.and_true, Bool.true_and, Bool.or_true, Bool.true_or, Bool.or_false, Bool.false_or, Bool.and_false, Bool.false_and, Bool.not_true, Bool.not_false, Option.map_some, List.length_nil, List.length_cons, List.length_map, List.nil_append, List.map_cons, List.map_nil, scal_int, scal_bool, scal_str, scal_none, scal_list, scal_tuple, cd_true, cd_false, not_true_eq_false, not_false_eq_true, Nat.zero_le, and_self, true_and, and_true, ne_eq, not_false_eq_true, reduceIte, Nat.reduceLT, Nat.reduceLeDiff, Nat.reduceAdd, Nat.reduceMul, Nat.reduceSub, Nat.reduceEqDiff, Int.reduceLT, Int.reduceLE, Int.reduceAdd, Int.reduceSub, Int.reduceMul, Int.reduceNeg, Int.reduceToNat, Int.reduceEq, Int.reduceAbs, Int.reducePow, e1]
def C__law_spread_image_1 : EF := (eCall PF.f__law_spread_cell [(eVar 1), (e2 fAdd (e2 fAdd (eVar 11) (eVar 3)) (eVar 12))])
def B__law_spread_image_2 : SF := (sApp 10 (e2 fIx (eVar 5) (eCall PF.f__law_index [(eLc (iR [(eVar 4)]) [12] (gN 12) bYes PF.C__law_spread_image_1), (eVar 2)])))
def F__law_spread_image : SF := (sSeq (sUnp [2, 3, 4, 5] (eVar 0))
  (sSeq (sUnp [6, 7, 8] (eVar 1))
  (sSeq (sSetZ 9 (e2 fAdd (e2 (fD gSub) (e2 (fD gSub) (eVar 7) (eVar 3)) (eVar 4)) (eC (.int 1))))
  (sSeq (sSet 10 (eList []))
  (sSeq (sForD [11] (iR [(eVar 9), (e2 (fD gSub) (e2 fAdd (eVar 7) (eCB (fD1 gLen) [(eVar 8)])) (eVar 3))]) (gN 11)
  PF.B__law_spread_image_2)
  (gh (gFrz 10) (sRet (eCall PF.f__law_spread_simple [(eTup [(e2 fIx (eVar 5) (eCall PF.f__law_index [(e2 fMul (eList [(eVar 6)]) (eVar 4)), (eVar 2)])), (eVar 9), (eVar 10)])]))))))))
def f__law_spread_image : FN := callF 13 F__law_spread_image
theorem law_spread_image_ok {s w : Nat} {o : Int} {t : List Int} {b st : Int} {cs : List Int} (hs : 0 < s) (hs' : s < 18446744073709551616) (ht : t.length = s ^ w) (hb : 0 ≤ b ∧ b < (s : Int)) (hx : ∀ c ∈ cs, 0 ≤ c ∧ c < (s : Int)) (hl : cs.length < 10000000) (hw : 1 ≤ w) (hw' : w < 1000000) (ho : -1000000 < o ∧ o < 1000000) (hst : -(2 ^ 60) < st ∧ st < 2 ^ 60) :
    SimpOf (newC s t (List.replicate w b)) (st - o - w + 1) (rawC s w t b st cs) (f__law_spread_image [mapD s o w t, spD b st cs]) := by
  have ix := index_ok (List.replicate w b) s hs'
  obtain ⟨m, m1, m2⟩ := win_at hs ht (ws := List.replicate w b) List.length_replicate (rep_in (P := fun c => 0 ≤ c ∧ c < (s : Int)) hb w)
  rw [m1, List.map_replicate] at ix
  obtain ⟨st', cs', e1, e2⟩ := law_spread_simple_ok (b := newC s t (List.replicate w b)) (st := st - o - w + 1) (cs := rawC s w t b st cs)
  refine ⟨st', cs', ?_, e2⟩
  have b4 : (-9223372036854775808 : Int) ≤ (w : Int) := by omega
  have b5 : (w : Int) < 9223372036854775808 := by omega
  have b6 : 1 * w ≤ 16777216 := by omega
  have r1 : small62 (st - o - w + 1) = true := small62_ok (by omega) (by omega)
  have r2 : small62 (st + cs.length - o) = true := small62_ok (by omega) (by omega)
  have r3 : small62 (w : Int) = true := small62_ok (by omega) (by omega)
  simp only [f__law_spread_image, F__law_spread_image, ev_seq, kSeq_nx, kSeq_rt, kSeq_bk, kSeq_ct, kSeq_ex, ev_nil, ev_pass, ev_break, ev_cont, ev_retn, ev_fg, fgt_nil, fgt_cons, ev_gh, kGh_some, ev_gfrz, kFrz_some, ev_gown, kOwn_full, kOwn_own, kOwn_val, ev_setZ, kSetZ_val, kSetZ_own, kSetZ_full, kSetZ_ex, ev_set, kSet_val, kSet_own, kSet_full, kSet_ex, ev_ret, kRet_val, kRet_own, kRet_full, kRet_ex, ev_retO, kRetO_own, kRetO_val, kRetO_full, ev_expr, kExpr_ok, kExpr_ex, ev_if, kIf_true, kIf_false, ev_for, kFor_ok, ev_while, ev_turn, kTurn1_some, kTurn_nx, kTurn_ct, kTurn_bk, kTurn_rt, kTurn_ex, ev_wturn, kW_true, kW_false, ev_gN, ev_gT, kT_some, itemsT_val, gSets_nil, gSets_val, mkv_int, mkv_bool, mkv_str, mkv_none, mkv_list, mkv_tuple, ev_unp, kUnp_val, kUnp_full, kU_some, ev_aug, kAug_val, kA_some, ev_app, kApp_val, kApp_own, kApp_full, ev_put, kPut_val, callF_eq, entE_nil, unds_succ, unds_zero, entE_cons, entS_int, entS_bool, entS_str, entS_none, entS_list, entS_tuple, kF_nx, kF_rt, kF_ex, frOf_val, frOf_own, frOf_full, ev_var, kVar_val, kVar_own, kVar_full, ev_c, ev_e2, k2_ok, okO_some, ev_e1, k1_ok, frz_val, frz_own, frz_full, frz_bor, frz_brf, dat_val, dat_bor, dat_brf, ev_evs0, ev_evs, kC_ok, ev_cb, kCB_ok, ev_call, kCall_ok, ev_cres, kRs_some, kRes_int, kRes_bool, kRes_str, kRes_none, kRes_list, kRes_tuple, kRes_false, kRes_exc, dats_nil, dats_cons, kD_some, isVal_val, isVal_bor, isVal_brf, ev_isa, kIsa_val, kIsa_own, kIsa_bor, kIsa_full, kIsa_brf, ev_and, kAnd_val, kAnd2_true, kAnd2_false, kAnd2_val, ev_or, kOr_val, kOr2_true, kOr2_false, kOr2_val, ev_not, kNot_val, ev_ife, kIfE_true, kIfE_false, ev_bof, kB_val, ev_tof, kTo_val, kTo_own, kTo_bor, kTo_full, kTo_brf, okB_some, truth_bool, truth_int, truth_none, truth_list, truth_tuple, ev_bnot, kNotB_ok, ev_band, kAndB_ok, kAndB2_true, kAndB2_false, kAndB2_ok, ev_bor, kOrB_ok, kOrB2_true, kOrB2_false, kOrB2_ok, ev_chain, kCh_ok, kCh2_false, kCh2_true, ev_fD, kD2_some, kS_int, kS_bool, kS_str, kS_none, ev_sub, ev_addI, ev_iadd, ev_div, ev_mod, ev_pow, ev_mulI, ev_neg, ev_eqI, ev_neI, ev_ltI, ev_leI, ev_gtI, ev_geI, ev_fD1, kD1_some, ev_int, ev_intb, ev_abs, ev_lenL, ev_lenT, ev_fI2, ev_catVV, ev_repV, ev_list, kLst_ok, ev_tup, kTup_ok, kMk_some, kMkT_some, stors_nil, stors_cons, kSt_some, stor_val, ev_ixL, ev_ixT, ev_ixB, atI_cast, atI_0, atI_1, atI_2, atI_3, atI_4, atI_5, atI_6, atI_7, ev_slice, kSl_val, kSl_own, kSl_bor, kSl_full, ev_pN, ev_pS, kP_int, ev_rev, ev_ls, ev_lsT, ev_tl, all_scal, ev_sorted, kSo_some, ev_iL, kIL_val, kIL_own, kIL_full, ev_iR, kR_1, kR_2, map_mkv_int, mkI_eq, rngI_eq, mkN_eq, ev_iR3, kR3_ok, rngC_eq, mkC_eq, ev_iM, kM_ok, kM2_some, mkEn_val, mkTp_val, ev_iZp, kZp_ok, mkZp_val, ev_lc, kLc_ok, kLcM_some, wipeE_nil, wipeE_cons, ev_byes, kE_val, kE_own, kE_full, kEl_some, kTl_some, ev_appAt, kAppAt_tuple, kAppAt_list, kAA_ok, ev_andI, ev_orI, ev_shr, ev_shl, List.getElem?_cons_zero, List.getElem?_cons_succ, List.set_cons_zero, List.set_cons_succ, List.all_nil, List.all_cons, Bool.and_true, Bool.true_and, Bool.or_true, Bool.true_or, Bool.or_false, Bool.false_or, Bool.and_false, Bool.false_and, Bool.not_true, Bool.not_false, Option.map_some, List.length_nil, List.length_cons, List.length_map, List.nil_append, List.map_cons, List.map_nil, scal_int, scal_bool, scal_str, scal_none, scal_list, scal_tuple, cd_true, cd_false, not_true_eq_false, not_false_eq_true, Nat.zero_le, and_self, true_and, and_true, ne_eq, not_false_eq_true, reduceIte, Nat.reduceLT, Nat.reduceLeDiff, Nat.reduceAdd, Nat.reduceMul, Nat.reduceSub, Nat.reduceEqDiff, Int.reduceLT, Int.reduceLE, Int.reduceAdd, Int.reduceSub, Int.reduceMul, Int.reduceNeg, Int.reduceToNat, Int.reduceEq, Int.reduceAbs, Int.reducePow, r1, r2, rngI_eq]
  refine forT_nx (fun l ρ => ∃ k : Nat, l = List.range' k (cs.length + w - 1 - k) ∧ ρ = [.val false (mapD s o w t), .val false (spD b st cs), .val true (.int s), .val true (.int o), .val true (.int w), .val false (.list (t.map .int)), .val true (.int b), .val true (.int st), .val false (.list (cs.map .int)), .val true (.int (st - o - w + 1)), .own true (((rawC s w t b st cs).take k).map .int), .und, .und]) (fun o => kF (kSeq o _) = _) ⟨0, ?_, rfl⟩ ?_ ?_
  · rw [List.range_eq_range']
    congr 1
    omega
  · rintro a l ρ ⟨k, e3, rfl⟩
    obtain ⟨rfl, k1, e4⟩ := range'_cons e3
    have key := lcL_map (t := gN 12) (elt := C__law_spread_image_1) (ρ := [.val false (mapD s o w t), .val false (spD b st cs), .val true (.int s), .val true (.int o), .val true (.int w), .val false (.list (t.map .int)), .val true (.int b), .val true (.int st), .val false (.list (cs.map .int)), .val true (.int (st - o - w + 1)), .own true (((rawC s w t b st cs).take a).map .int), .val true (.int (st - o - w + 1 + (a : Int))), .und]) (mk := mkN 0) (r := fun (j : Nat) => .int (sc b st cs (st - w + 1 + (a : Int) + (j : Int)))) (List.range w) (fun j hj => by
      simp only [C__law_spread_image_1, ev_seq, kSeq_nx, kSeq_rt, kSeq_bk, kSeq_ct, kSeq_ex, ev_nil, ev_pass, ev_break, ev_cont, ev_retn, ev_fg, fgt_nil, fgt_cons, ev_gh, kGh_some, ev_gfrz, kFrz_some, ev_gown, kOwn_full, kOwn_own, kOwn_val, ev_setZ, kSetZ_val, kSetZ_own, kSetZ_full, kSetZ_ex, ev_set, kSet_val, kSet_own, kSet_full, kSet_ex, ev_ret, kRet_val, kRet_own, kRet_full, kRet_ex, ev_retO, kRetO_own, kRetO_val, kRetO_full, ev_expr, kExpr_ok, kExpr_ex, ev_if, kIf_true, kIf_false, ev_for, kFor_ok, ev_while, ev_turn, kTurn1_some, kTurn_nx, kTurn_ct, kTurn_bk, kTurn_rt, kTurn_ex, ev_wturn, kW_true, kW_false, ev_gN, ev_gT, kT_some, itemsT_val, gSets_nil, gSets_val, mkv_int, mkv_bool, mkv_str, mkv_none, mkv_list, mkv_tuple, ev_unp, kUnp_val, kUnp_full, kU_some, ev_aug, kAug_val, kA_some, ev_app, kApp_val, kApp_own, kApp_full, ev_put, kPut_val, callF_eq, entE_nil, unds_succ, unds_zero, entE_cons, entS_int, entS_bool, entS_str, entS_none, entS_list, entS_tuple, kF_nx, kF_rt, kF_ex, frOf_val, frOf_own, frOf_full, ev_var, kVar_val, kVar_own, kVar_full, ev_c, ev_e2, k2_ok, okO_some, ev_e1, k1_ok, frz_val, frz_own, frz_full, frz_bor, frz_brf, dat_val, dat_bor, dat_brf, ev_evs0, ev_evs, kC_ok, ev_cb, kCB_ok, ev_call, kCall_ok, ev_cres, kRs_some, kRes_int, kRes_bool, kRes_str, kRes_none, kRes_list, kRes_tuple, kRes_false, kRes_exc, dats_nil, dats_cons, kD_some, isVal_val, isVal_bor, isVal_brf, ev_isa, kIsa_val, kIsa_own, kIsa_bor, kIsa_full, kIsa_brf, ev_and, kAnd_val, kAnd2_true, kAnd2_false, kAnd2_val, ev_or, kOr_val, kOr2_true, kOr2_false, kOr2_val, ev_not, kNot_val, ev_ife, kIfE_true, kIfE_false, ev_bof, kB_val, ev_tof, kTo_val, kTo_own, kTo_bor, kTo_full, kTo_brf, okB_some, truth_bool, truth_int, truth_none, truth_list, truth_tuple, ev_bnot, kNotB_ok, ev_band, kAndB_ok, kAndB2_true, kAndB2_false, kAndB2_ok, ev_bor, kOrB_ok, kOrB2_true, kOrB2_false, kOrB2_ok, ev_chain, kCh_ok, kCh2_false, kCh2_true, ev_fD, kD2_some, kS_int, kS_bool, kS_str, kS_none, ev_sub, ev_addI, ev_iadd, ev_div, ev_mod, ev_pow, ev_mulI, ev_neg, ev_eqI, ev_neI, ev_ltI, ev_leI, ev_gtI, ev_geI, ev_fD1, kD1_some, ev_int, ev_intb, ev_abs, ev_lenL, ev_lenT, ev_fI2, ev_catVV, ev_repV, ev_list, kLst_ok, ev_tup, kTup_ok, kMk_some, kMkT_some, stors_nil, stors_cons, kSt_some, stor_val, ev_ixL, ev_ixT, ev_ixB, atI_cast, atI_0, atI_1, atI_2, atI_3, atI_4, atI_5, atI_6, atI_7, ev_slice, kSl_val, kSl_own, kSl_bor, kSl_full, ev_pN, ev_pS, kP_int, ev_rev, ev_ls, ev_lsT, ev_tl, all_scal, ev_sorted, kSo_some, ev_iL, kIL_val, kIL_own, kIL_full, ev_iR, kR_1, kR_2, map_mkv_int, mkI_eq, rngI_eq, mkN_eq, ev_iR3, kR3_ok, rngC_eq, mkC_eq, ev_iM, kM_ok, kM2_some, mkEn_val, mkTp_val, ev_iZp, kZp_ok, mkZp_val, ev_lc, kLc_ok, kLcM_some, wipeE_nil, wipeE_cons, ev_byes, kE_val, kE_own, kE_full, kEl_some, kTl_some, ev_appAt, kAppAt_tuple, kAppAt_list, kAA_ok, ev_andI, ev_orI, ev_shr, ev_shl, List.getElem?_cons_zero, List.getElem?_cons_succ, List.set_cons_zero, List.set_cons_succ, List.all_nil, List.all_cons, Bool.and_true, Bool.true_and, Bool.or_true, Bool.true_or, Bool.or_false, Bool.false_or, Bool.and_false, Bool.false_and, Bool.not_true, Bool.not_false, Option.map_some, List.length_nil, List.length_cons, List.length_map, List.nil_append, List.map_cons, List.map_nil, scal_int, scal_bool, scal_str, scal_none, scal_list, scal_tuple, cd_true, cd_false, not_true_eq_false, not_false_eq_true, Nat.zero_le, and_self, true_and, and_true, ne_eq, not_false_eq_true, reduceIte, Nat.reduceLT, Nat.reduceLeDiff, Nat.reduceAdd, Nat.reduceMul, Nat.reduceSub, Nat.reduceEqDiff, Int.reduceLT, Int.reduceLE, Int.reduceAdd, Int.reduceSub, Int.reduceMul, Int.reduceNeg, Int.reduceToNat, Int.reduceEq, Int.reduceAbs, Int.reducePow, mkN_eq, Int.zero_add, law_spread_cell_ok]
      rw [show st - o - (w : Int) + 1 + (a : Int) + o + (j : Int) = st - w + 1 + a + j by omega])
    have e5 : ((List.range w).map fun (j : Nat) => PyData.int (sc b st cs (st - w + 1 + (a : Int) + (j : Int)))) = (swin b st cs (st - w + 1 + (a : Int)) w).map .int := by
      unfold swin; rw [List.map_map]; rfl
    rw [e5] at key
    have ix2 := index_ok (swin b st cs (st - w + 1 + (a : Int)) w) s hs'
    obtain ⟨m', m3, m4⟩ := win_at hs ht (swin_len b st cs (st - w + 1 + (a : Int)) w) (swin_in (P := fun c => 0 ≤ c ∧ c < (s : Int)) hb hx (st - w + 1 + (a : Int)) w)
    rw [m3] at ix2
    have z7 : (swin b st cs (st - w + 1 + (a : Int)) w).length ≤ 16777216 := by rw [swin_len]; omega
    have z8 : ((rawC s w t b st cs).take a).length < 16777216 := by rw [List.length_take, raw_len]; omega
    simp only [B__law_spread_image_2, ev_seq, kSeq_nx, kSeq_rt, kSeq_bk, kSeq_ct, kSeq_ex, ev_nil, ev_pass, ev_break, ev_cont, ev_retn, ev_fg, fgt_nil, fgt_cons, ev_gh, kGh_some, ev_gfrz, kFrz_some, ev_gown, kOwn_full, kOwn_own, kOwn_val, ev_setZ, kSetZ_val, kSetZ_own, kSetZ_full, kSetZ_ex, ev_set, kSet_val, kSet_own, kSet_full, kSet_ex, ev_ret, kRet_val, kRet_own, kRet_full, kRet_ex, ev_retO, kRetO_own, kRetO_val, kRetO_full, ev_expr, kExpr_ok, kExpr_ex, ev_if, kIf_true, kIf_false, ev_for, kFor_ok, ev_while, ev_turn, kTurn1_some, kTurn_nx, kTurn_ct, kTurn_bk, kTurn_rt, kTurn_ex, ev_wturn, kW_true, kW_false, ev_gN, ev_gT, kT_some, itemsT_val, gSets_nil, gSets_val, mkv_int, mkv_bool, mkv_str, mkv_none, mkv_list, mkv_tuple, ev_unp, kUnp_val, kUnp_full, kU_some, ev_aug, kAug_val, kA_some, ev_app, kApp_val, kApp_own, kApp_full, ev_put, kPut_val, callF_eq, entE_nil, unds_succ, unds_zero, entE_cons, entS_int, entS_bool, entS_str, entS_none, entS_list, entS_tuple, kF_nx, kF_rt, kF_ex, frOf_val, frOf_own, frOf_full, ev_var, kVar_val, kVar_own, kVar_full, ev_c, ev_e2, k2_ok, okO_some, ev_e1, k1_ok, frz_val, frz_own, frz_full, frz_bor, frz_brf, dat_val, dat_bor, dat_brf, ev_evs0, ev_evs, kC_ok, ev_cb, kCB_ok, ev_call, kCall_ok, ev_cres, kRs_some, kRes_int, kRes_bool, kRes_str, kRes_none, kRes_list, kRes_tuple, kRes_false, kRes_exc, dats_nil, dats_cons, kD_some, isVal_val, isVal_bor, isVal_brf, ev_isa, kIsa_val, kIsa_own, kIsa_bor, kIsa_full, kIsa_brf, ev_and, kAnd_val, kAnd2_true, kAnd2_false, kAnd2_val, ev_or, kOr_val, kOr2_true, kOr2_false, kOr2_val, ev_not, kNot_val, ev_ife, kIfE_true, kIfE_false, ev_bof, kB_val, ev_tof, kTo_val, kTo_own, kTo_bor, kTo_full, kTo_brf, okB_some, truth_bool, truth_int, truth_none, truth_list, truth_tuple, ev_bnot, kNotB_ok, ev_band, kAndB_ok, kAndB2_true, kAndB2_false, kAndB2_ok, ev_bor, kOrB_ok, kOrB2_true, kOrB2_false, kOrB2_ok, ev_chain, kCh_ok, kCh2_false, kCh2_true, ev_fD, kD2_some, kS_int, kS_bool, kS_str, kS_none, ev_sub, ev_addI, ev_iadd, ev_div, ev_mod, ev_pow, ev_mulI, ev_neg, ev_eqI, ev_neI, ev_ltI, ev_leI, ev_gtI, ev_geI, ev_fD1, kD1_some, ev_int, ev_intb, ev_abs, ev_lenL, ev_lenT, ev_fI2, ev_catVV, ev_repV, ev_list, kLst_ok, ev_tup, kTup_ok, kMk_some, kMkT_some, stors_nil, stors_cons, kSt_some, stor_val, ev_ixL, ev_ixT, ev_ixB, atI_cast, atI_0, atI_1, atI_2, atI_3, atI_4, atI_5, atI_6, atI_7, ev_slice, kSl_val, kSl_own, kSl_bor, kSl_full, ev_pN, ev_pS, kP_int, ev_rev, ev_ls, ev_lsT, ev_tl, all_scal, ev_sorted, kSo_some, ev_iL, kIL_val, kIL_own, kIL_full, ev_iR, kR_1, kR_2, map_mkv_int, mkI_eq, rngI_eq, mkN_eq, ev_iR3, kR3_ok, rngC_eq, mkC_eq, ev_iM, kM_ok, kM2_some, mkEn_val, mkTp_val, ev_iZp, kZp_ok, mkZp_val, ev_lc, kLc_ok, kLcM_some, wipeE_nil, wipeE_cons, ev_byes, kE_val, kE_own, kE_full, kEl_some, kTl_some, ev_appAt, kAppAt_tuple, kAppAt_list, kAA_ok, ev_andI, ev_orI, ev_shr, ev_shl, List.getElem?_cons_zero, List.getElem?_cons_succ, List.set_cons_zero, List.set_cons_succ, List.all_nil, List.all_cons, Bool.and_true, Bool.true_and, Bool.or_true, Bool.true_or, Bool.or_false, Bool.false_or, Bool.and_false, Bool.false_and, Bool.not_true, Bool.not_false, Option.map_some, List.length_nil, List.length_cons, List.length_map, List.nil_append, List.map_cons, List.map_nil, scal_int, scal_bool, scal_str, scal_none, scal_list, scal_tuple, cd_true, cd_false, not_true_eq_false, not_false_eq_true, Nat.zero_le, and_self, true_and, and_true, ne_eq, not_false_eq_true, reduceIte, Nat.reduceLT, Nat.reduceLeDiff, Nat.reduceAdd, Nat.reduceMul, Nat.reduceSub, Nat.reduceEqDiff, Int.reduceLT, Int.reduceLE, Int.reduceAdd, Int.reduceSub, Int.reduceMul, Int.reduceNeg, Int.reduceToNat, Int.reduceEq, Int.reduceAbs, Int.reducePow, mkN_eq, r3, rngI_eq, Int.sub_zero, Int.toNat_natCast, key, z7, z8, ix2, atI_cast, m4]
    refine ⟨_, rfl, a + 1, e4, ?_⟩
    have al : a < (rawC s w t b st cs).length := by rw [raw_len]; exact k1
    rw [List.take_succ_eq_append_getElem al, List.map_append]
    have e6 := raw_get (s := s) (t := t) (b := b) (st := st) (cs := cs) (w := w) k1
    rw [List.getElem?_eq_getElem al] at e6
    rw [Option.some.inj e6]; rfl
  · rintro ρ ⟨k, e3, rfl⟩
    have := range'_nil e3
    rw [List.take_of_length_le (by rw [raw_len]; exact this)]
    simp only [ev_seq, kSeq_nx, kSeq_rt, kSeq_bk, kSeq_ct, kSeq_ex, ev_nil, ev_pass, ev_break, ev_cont, ev_retn, ev_fg, fgt_nil, fgt_cons, ev_gh, kGh_some, ev_gfrz, kFrz_some, ev_gown, kOwn_full, kOwn_own, kOwn_val, ev_setZ, kSetZ_val, kSetZ_own, kSetZ_full, kSetZ_ex, ev_set, kSet_val, kSet_own, kSet_full, kSet_ex, ev_ret, kRet_val, kRet_own, kRet_full, kRet_ex, ev_retO, kRetO_own, kRetO_val, kRetO_full, ev_expr, kExpr_ok, kExpr_ex, ev_if, kIf_true, kIf_false, ev_for, kFor_ok, ev_while, ev_turn, kTurn1_some, kTurn_nx, kTurn_ct, kTurn_bk, kTurn_rt, kTurn_ex, ev_wturn, kW_true, kW_false, ev_gN, ev_gT, kT_some, itemsT_val, gSets_nil, gSets_val, mkv_int, mkv_bool, mkv_str, mkv_none, mkv_list, mkv_tuple, ev_unp, kUnp_val, kUnp_full, kU_some, ev_aug, kAug_val, kA_some, ev_app, kApp_val, kApp_own, kApp_full, ev_put, kPut_val, callF_eq, entE_nil, unds_succ, unds_zero, entE_cons, entS_int, entS_bool, entS_str, entS_none, entS_list, entS_tuple, kF_nx, kF_rt, kF_ex, frOf_val, frOf_own, frOf_full, ev_var, kVar_val, kVar_own, kVar_full, ev_c, ev_e2, k2_ok, okO_some, ev_e1, k1_ok, frz_val, frz_own, frz_full, frz_bor, frz_brf, dat_val, dat_bor, dat_brf, ev_evs0, ev_evs, kC_ok, ev_cb, kCB_ok, ev_call, kCall_ok, ev_cres, kRs_some, kRes_int, kRes_bool, kRes_str, kRes_none, kRes_list, kRes_tuple, kRes_false, kRes_exc, dats_nil, dats_cons, kD_some, isVal_val, isVal_bor, isVal_brf, ev_isa, kIsa_val, kIsa_own, kIsa_bor, kIsa_full, kIsa_brf, ev_and, kAnd_val, kAnd2_true, kAnd2_false, kAnd2_val, ev_or, kOr_val, kOr2_true, kOr2_false, kOr2_val, ev_not, kNot_val, ev_ife, kIfE_true, kIfE_false, ev_bof, kB_val, ev_tof, kTo_val, kTo_own, kTo_bor, kTo_full, kTo_brf, okB_some, truth_bool, truth_int, truth_none, truth_list, truth_tuple, ev_bnot, kNotB_ok, ev_band, kAndB_ok, kAndB2_true, kAndB2_false, kAndB2_ok, ev_bor, kOrB_ok, kOrB2_true, kOrB2_false, kOrB2_ok, ev_chain, kCh_ok, kCh2_false, kCh2_true, ev_fD, kD2_some, kS_int, kS_bool, kS_str, kS_none, ev_sub, ev_addI, ev_iadd, ev_div, ev_mod, ev_pow, ev_mulI, ev_neg, ev_eqI, ev_neI, ev_ltI, ev_leI, ev_gtI, ev_geI, ev_fD1, kD1_some, ev_int, ev_intb, ev_abs, ev_lenL, ev_lenT, ev_fI2, ev_catVV, ev_repV, ev_list, kLst_ok, ev_tup, kTup_ok, kMk_some, kMkT_some, stors_nil, stors_cons, kSt_some, stor_val, ev_ixL, ev_ixT, ev_ixB, atI_cast, atI_0, atI_1, atI_2, atI_3, atI_4, atI_5, atI_6, atI_7, ev_slice, kSl_val, kSl_own, kSl_bor, kSl_full, ev_pN, ev_pS, kP_int, ev_rev, ev_ls, ev_lsT, ev_tl, all_scal, ev_sorted, kSo_some, ev_iL, kIL_val, kIL_own, kIL_full, ev_iR, kR_1, kR_2, map_mkv_int, mkI_eq, rngI_eq, mkN_eq, ev_iR3, kR3_ok, rngC_eq, mkC_eq, ev_iM, kM_ok, kM2_some, mkEn_val, mkTp_val, ev_iZp, kZp_ok, mkZp_val, ev_lc, kLc_ok, kLcM_some, wipeE_nil, wipeE_cons, ev_byes, kE_val, kE_own, kE_full, kEl_some, kTl_some, ev_appAt, kAppAt_tuple, kAppAt_list, kAA_ok, ev_andI, ev_orI, ev_shr, ev_shl, List.getElem?_cons_zero, List.getElem?_cons_succ, List.set_cons_zero, List.set_cons_succ, List.all_nil, List.all_cons, Bool.and_true, Bool.true_and, Bool.or_true, Bool.true_or, Bool.or_false, Bool.false_or, Bool.and_false, Bool.false_and, Bool.not_true, Bool.not_false, Option.map_some, List.length_nil, List.length_cons, List.length_map, List.nil_append, List.map_cons, List.map_nil, scal_int, scal_bool, scal_str, scal_none, scal_list, scal_tuple, cd_true, cd_false, not_true_eq_false, not_false_eq_true, Nat.zero_le, and_self, true_and, and_true, ne_eq, not_false_eq_true, reduceIte, Nat.reduceLT, Nat.reduceLeDiff, Nat.reduceAdd, Nat.reduceMul, Nat.reduceSub, Nat.reduceEqDiff, Int.reduceLT, Int.reduceLE, Int.reduceAdd, Int.reduceSub, Int.reduceMul, Int.reduceNeg, Int.reduceToNat, Int.reduceEq, Int.reduceAbs, Int.reducePow, flat_rep, Int.toNat_natCast, b4, b5, b6, ix, atI_cast, m2, e1]
def K__law_spread_1 : SF := (sSeq (sSetZ 4 (eSl (eVar 2) (pS (eC (.int 4))) (pS (e2 fAdd (eC (.int 4)) (e2 fIx (eVar 2) (eC (.int 2)))))))
  (sSeq (sIf (bOf (e2 (fD gEq) (e2 fIx (eVar 2) (eC (.int 3))) (eC (.int 1))))
  (sSetZ 4 (e2 fAdd (e2 fAdd (e2 fMul (eList [(e2 fIx (eVar 2) (eC (.int 0)))]) (e2 (fD gAnd) (e2 fIx (eVar 2) (eC (.int 1))) (eC (.int 3)))) (eVar 4)) (e2 fMul (eList [(e2 fIx (eVar 2) (eC (.int 0)))]) (e2 (fD gAnd) (e2 (fD gDiv) (e2 fIx (eVar 2) (eC (.int 1))) (eC (.int 4))) (eC (.int 3))))))
  sNil)
  (sRet (eTup [(e2 fIx (eVar 2) (eC (.int 0))), (eVar 3), (eVar 4)]))))
def F__law_spread : SF := (sSeq (sSetZ 2 (eCall PF.f__law_draws [(eVar 0), (e2 fAdd (eList [(eVar 1), (eC (.int 41)), (eC (.int 9)), (eC (.int 4))]) (e2 fMul (eList [(eVar 1)]) (eC (.int 12))))]))
  (sSeq (sSetZ 3 (e2 (fD gSub) (e2 fIx (eVar 2) (eC (.int 1))) (eC (.int 20))))
  (sSeq (sIf (bOf (e2 (fD gEq) (e2 fIx (eVar 2) (eC (.int 3))) (eC (.int 0))))
  (sSetZ 3 (e2 fMul (eVar 3) (eC (.int 1000000))))
  sNil)
  PF.K__law_spread_1)))
def f__law_spread : FN := callF 5 F__law_spread
theorem and3 (n : Nat) : Builtin.bitAnd (n : Int) 3 = ((n % 4 : Nat) : Int) := by
  have h : Builtin.bitAnd (n : Int) ((3 : Nat) : Int) = ((n &&& 3 : Nat) : Int) := rfl
  have h2 : n &&& 3 = n % 4 := Nat.and_two_pow_sub_one_eq_mod n 2
  rw [← h2]; exact h
/-- a drawn spread row -/
theorem spread_ok (c : Int) (s : Nat) (hs : 2 ≤ s) (hs' : s ≤ 4) : ∃ b st cs, f__law_spread [.int c, .int s] = some (.ret true (spD b st cs)) ∧ (0 ≤ b ∧ b < (s : Int)) ∧ (∀ x ∈ cs, 0 ≤ x ∧ x < (s : Int)) ∧ cs.length ≤ 14 ∧ -20000000 ≤ st ∧ st ≤ 20000000 := by
  obtain ⟨rs, d1, d2⟩ := draws_ok c ([(s : Int), 41, 9, 4] ++ List.replicate 12 (s : Int)) (fun l hl => by
    simp only [List.mem_append, List.mem_cons, List.not_mem_nil, or_false] at hl
    rcases hl with h | h
    · omega
    · rw [List.eq_of_mem_replicate h]; omega) (by simp)
  obtain ⟨q0, q1, q2, q3, qs, rfl⟩ : ∃ q0 q1 q2 q3 qs, rs = q0 :: q1 :: q2 :: q3 :: qs := by
    have := d2.length
    match rs, this with
    | a :: b :: c :: d :: r, _ => exact ⟨a, b, c, d, r, rfl⟩
  obtain ⟨x0, x1, y0, y1, z0, z1, u0, u1, d3⟩ := d2
  obtain ⟨l1, l2⟩ := Below.rep (n := 12) (s := (s : Int)) d3
  rw [List.map_append, List.map_replicate] at d1
  simp only [List.map_cons, List.map_nil] at d1
  obtain ⟨n1, h1⟩ := Int.eq_ofNat_of_zero_le y0
  obtain ⟨n2, h2⟩ := Int.eq_ofNat_of_zero_le z0
  subst h1; subst h2
  have e1 : (4 : Int) + (n2 : Int) = ((4 + n2 : Nat) : Int) := by omega
  have m1 : cMul ((n1 : Int) - 20) 1000000 = true := cMul2 (by decide) (by decide)
  have cut : PL.cutD (PyData.int q0 :: .int n1 :: .int n2 :: .int q3 :: qs.map .int) (some 4) (some ((4 + n2 : Nat) : Int)) = (qs.take n2).map .int := by
    have := cutD_nat (ds := PyData.int q0 :: .int n1 :: .int n2 :: .int q3 :: qs.map .int) 4 (4 + n2)
    rw [List.map_take]
    rw [show (4 + n2 - 4) = n2 by omega] at this
    exact this
  have key : ∀ st0 : Int, -20000000 ≤ st0 → st0 ≤ 20000000 → ∃ b st cs, kF (K__law_spread_1 [.val true (.int c), .val true (.int s), .val true (.list (.int q0 :: .int n1 :: .int n2 :: .int q3 :: qs.map .int)), .val true (.int st0), .und]) = some (.ret true (spD b st cs)) ∧ (0 ≤ b ∧ b < (s : Int)) ∧ (∀ x ∈ cs, 0 ≤ x ∧ x < (s : Int)) ∧ cs.length ≤ 14 ∧ -20000000 ≤ st ∧ st ≤ 20000000 := by
    intro st0 g1 g2
    have in1 : ∀ x ∈ qs.take n2, 0 ≤ x ∧ x < (s : Int) := fun x hx => l2 x (List.mem_of_mem_take hx)
    by_cases k1 : q3 = 1
    · subst k1
      have a1 := and3 n1
      have dv : (n1 : Int) / 4 = ((n1 / 4 : Nat) : Int) := rfl
      have a2 := and3 (n1 / 4)
      have b1 : ∀ n : Nat, (-9223372036854775808 : Int) ≤ ((n % 4 : Nat) : Int) := fun n => by omega
      have b2 : ∀ n : Nat, ((n % 4 : Nat) : Int) < 9223372036854775808 := fun n => by omega
      have b3 : ∀ n : Nat, 1 * (n % 4) ≤ 16777216 := fun n => by omega
      have b4 : n1 % 4 + (qs.take n2).length ≤ 16777216 := by rw [List.length_take]; omega
      have b5 : n1 % 4 + (qs.take n2).length + n1 / 4 % 4 ≤ 16777216 := by rw [List.length_take]; omega
      refine ⟨q0, st0, List.replicate (n1 % 4) q0 ++ qs.take n2 ++ List.replicate (n1 / 4 % 4) q0, ?_, ⟨x0, x1⟩, fun x hx => ?_, ?_, g1, g2⟩
      · simp only [K__law_spread_1, ev_seq, kSeq_nx, kSeq_rt, kSeq_bk, kSeq_ct, kSeq_ex, ev_nil, ev_pass, ev_break, ev_cont, ev_retn, ev_fg, fgt_nil, fgt_cons, ev_gh, kGh_some, ev_gfrz, kFrz_some, ev_gown, kOwn_full, kOwn_own, kOwn_val, ev_setZ, kSetZ_val, kSetZ_own, kSetZ_full, kSetZ_ex, ev_set, kSet_val, kSet_own, kSet_full, kSet_ex, ev_ret, kRet_val, kRet_own, kRet_full, kRet_ex, ev_retO, kRetO_own, kRetO_val, kRetO_full, ev_expr, kExpr_ok, kExpr_ex, ev_if, kIf_true, kIf_false, ev_for, kFor_ok, ev_while, ev_turn, kTurn1_some, kTurn_nx, kTurn_ct, kTurn_bk, kTurn_rt, kTurn_ex, ev_wturn, kW_true, kW_false, ev_gN, ev_gT, kT_some, itemsT_val, gSets_nil, gSets_val, mkv_int, mkv_bool, mkv_str, mkv_none, mkv_list, mkv_tuple, ev_unp, kUnp_val, kUnp_full, kU_some, ev_aug, kAug_val, kA_some, ev_app, kApp_val, kApp_own, kApp_full, ev_put, kPut_val, callF_eq, entE_nil, unds_succ, unds_zero, entE_cons, entS_int, entS_bool, entS_str, entS_none, entS_list, entS_tuple, kF_nx, kF_rt, kF_ex, frOf_val, frOf_own, frOf_full, ev_var, kVar_val, kVar_own, kVar_full, ev_c, ev_e2, k2_ok, okO_some, ev_e1, k1_ok, frz_val, frz_own, frz_full, frz_bor, frz_brf, dat_val, dat_bor, dat_brf, ev_evs0, ev_evs, kC_ok, ev_cb, kCB_ok, ev_call, kCall_ok, ev_cres, kRs_some, kRes_int, kRes_bool, kRes_str, kRes_none, kRes_list, kRes_tuple, kRes_false, kRes_exc, dats_nil, dats_cons, kD_some, isVal_val, isVal_bor, isVal_brf, ev_isa, kIsa_val, kIsa_own, kIsa_bor, kIsa_full, kIsa_brf, ev_and, kAnd_val, kAnd2_true, kAnd2_false, kAnd2_val, ev_or, kOr_val, kOr2_true, kOr2_false, kOr2_val, ev_not, kNot_val, ev_ife, kIfE_true, kIfE_false, ev_bof, kB_val, ev_tof, kTo_val, kTo_own, kTo_bor, kTo_full, kTo_brf, okB_some, truth_bool, truth_int, truth_none, truth_list, truth_tuple, ev_bnot, kNotB_ok, ev_band, kAndB_ok, kAndB2_true, kAndB2_false, kAndB2_ok, ev_bor, kOrB_ok, kOrB2_true, kOrB2_false, kOrB2_ok, ev_chain, kCh_ok, kCh2_false, kCh2_true, ev_fD, kD2_some, kS_int, kS_bool, kS_str, kS_none, ev_sub, ev_addI, ev_iadd, ev_div, ev_mod, ev_pow, ev_mulI, ev_neg, ev_eqI, ev_neI, ev_ltI, ev_leI, ev_gtI, ev_geI, ev_fD1, kD1_some, ev_int, ev_intb, ev_abs, ev_lenL, ev_lenT, ev_fI2, ev_catVV, ev_repV, ev_list, kLst_ok, ev_tup, kTup_ok, kMk_some, kMkT_some, stors_nil, stors_cons, kSt_some, stor_val, ev_ixL, ev_ixT, ev_ixB, atI_cast, atI_0, atI_1, atI_2, atI_3, atI_4, atI_5, atI_6, atI_7, ev_slice, kSl_val, kSl_own, kSl_bor, kSl_full, ev_pN, ev_pS, kP_int, ev_rev, ev_ls, ev_lsT, ev_tl, all_scal, ev_sorted, kSo_some, ev_iL, kIL_val, kIL_own, kIL_full, ev_iR, kR_1, kR_2, map_mkv_int, mkI_eq, rngI_eq, mkN_eq, ev_iR3, kR3_ok, rngC_eq, mkC_eq, ev_iM, kM_ok, kM2_some, mkEn_val, mkTp_val, ev_iZp, kZp_ok, mkZp_val, ev_lc, kLc_ok, kLcM_some, wipeE_nil, wipeE_cons, ev_byes, kE_val, kE_own, kE_full, kEl_some, kTl_some, ev_appAt, kAppAt_tuple, kAppAt_list, kAA_ok, ev_andI, ev_orI, ev_shr, ev_shl, List.getElem?_cons_zero, List.getElem?_cons_succ, List.set_cons_zero, List.set_cons_succ, List.all_nil, List.all_cons, Bool.and_true, Bool.true_and, Bool.or_true, Bool.true_or, Bool.or_false, Bool.false_or, Bool.and_false, Bool.false_and, Bool.not_true, Bool.not_false, Option.map_some, List.length_nil, List.length_cons, List.length_map, List.nil_append, List.map_cons, List.map_nil, scal_int, scal_bool, scal_str, scal_none, scal_list, scal_tuple, cd_true, cd_false, not_true_eq_false, not_false_eq_true, Nat.zero_le, and_self, true_and, and_true, ne_eq, not_false_eq_true, reduceIte, Nat.reduceLT, Nat.reduceLeDiff, Nat.reduceAdd, Nat.reduceMul, Nat.reduceSub, Nat.reduceEqDiff, Int.reduceLT, Int.reduceLE, Int.reduceAdd, Int.reduceSub, Int.reduceMul, Int.reduceNeg, Int.reduceToNat, Int.reduceEq, Int.reduceAbs, Int.reducePow, atI_0, atI_1, atI_2, atI_3, e1, cut, a1, dv, a2, Int.toNat_natCast, b1, b2, b3, flat_rep, List.length_replicate, List.length_append, b4, b5, all_scal]
        simp only [spD, List.map_append, List.map_replicate]
      · rcases List.mem_append.mp hx with h | h
        · rcases List.mem_append.mp h with h | h
          · rw [List.eq_of_mem_replicate h]; exact ⟨x0, x1⟩
          · exact in1 x h
        · rw [List.eq_of_mem_replicate h]; exact ⟨x0, x1⟩
      · rw [List.length_append, List.length_append, List.length_replicate, List.length_replicate, List.length_take]; omega
    · refine ⟨q0, st0, qs.take n2, ?_, ⟨x0, x1⟩, in1, by rw [List.length_take]; omega, g1, g2⟩
      simp only [K__law_spread_1, ev_seq, kSeq_nx, kSeq_rt, kSeq_bk, kSeq_ct, kSeq_ex, ev_nil, ev_pass, ev_break, ev_cont, ev_retn, ev_fg, fgt_nil, fgt_cons, ev_gh, kGh_some, ev_gfrz, kFrz_some, ev_gown, kOwn_full, kOwn_own, kOwn_val, ev_setZ, kSetZ_val, kSetZ_own, kSetZ_full, kSetZ_ex, ev_set, kSet_val, kSet_own, kSet_full, kSet_ex, ev_ret, kRet_val, kRet_own, kRet_full, kRet_ex, ev_retO, kRetO_own, kRetO_val, kRetO_full, ev_expr, kExpr_ok, kExpr_ex, ev_if, kIf_true, kIf_false, ev_for, kFor_ok, ev_while, ev_turn, kTurn1_some, kTurn_nx, kTurn_ct, kTurn_bk, kTurn_rt, kTurn_ex, ev_wturn, kW_true, kW_false, ev_gN, ev_gT, kT_some, itemsT_val, gSets_nil, gSets_val, mkv_int, mkv_bool, mkv_str, mkv_none, mkv_list, mkv_tuple, ev_unp, kUnp_val, kUnp_full, kU_some, ev_aug, kAug_val, kA_some, ev_app, kApp_val, kApp_own, kApp_full, ev_put, kPut_val, callF_eq, entE_nil, unds_succ, unds_zero, entE_cons, entS_int, entS_bool, entS_str, entS_none, entS_list, entS_tuple, kF_nx, kF_rt, kF_ex, frOf_val, frOf_own, frOf_full, ev_var, kVar_val, kVar_own, kVar_full, ev_c, ev_e2, k2_ok, okO_some, ev_e1, k1_ok, frz_val, frz_own, frz_full, frz_bor, frz_brf, dat_val, dat_bor, dat_brf, ev_evs0, ev_evs, kC_ok, ev_cb, kCB_ok, ev_call, kCall_ok, ev_cres, kRs_some, kRes_int, kRes_bool, kRes_str, kRes_none, kRes_list, kRes_tuple, kRes_false, kRes_exc, dats_nil, dats_cons, kD_some, isVal_val, isVal_bor, isVal_brf, ev_isa, kIsa_val, kIsa_own, kIsa_bor, kIsa_full, kIsa_brf, ev_and, kAnd_val, kAnd2_true, kAnd2_false, kAnd2_val, ev_or, kOr_val, kOr2_true, kOr2_false, kOr2_val, ev_not, kNot_val, ev_ife, kIfE_true, kIfE_false, ev_bof, kB_val, ev_tof, kTo_val, kTo_own, kTo_bor, kTo_full, kTo_brf, okB_some, truth_bool, truth_int, truth_none, truth_list, truth_tuple, ev_bnot, kNotB_ok, ev_band, kAndB_ok, kAndB2_true, kAndB2_false, kAndB2_ok, ev_bor, kOrB_ok, kOrB2_true, kOrB2_false, kOrB2_ok, ev_chain, kCh_ok, kCh2_false, kCh2_true, ev_fD, kD2_some, kS_int, kS_bool, kS_str, kS_none, ev_sub, ev_addI, ev_iadd, ev_div, ev_mod, ev_pow, ev_mulI, ev_neg, ev_eqI, ev_neI, ev_ltI, ev_leI, ev_gtI, ev_geI, ev_fD1, kD1_some, ev_int, ev_intb, ev_abs, ev_lenL, ev_lenT, ev_fI2, ev_catVV, ev_repV, ev_list, kLst_ok, ev_tup, kTup_ok, kMk_some, kMkT_some, stors_nil, stors_cons, kSt_some, stor_val, ev_ixL, ev_ixT, ev_ixB, atI_cast, atI_0, atI_1, atI_2, atI_3, atI_4, atI_5, atI_6, atI_7, ev_slice, kSl_val, kSl_own, kSl_bor, kSl_full, ev_pN, ev_pS, kP_int, ev_rev, ev_ls, ev_lsT, ev_tl, all_scal, ev_sorted, kSo_some, ev_iL, kIL_val, kIL_own, kIL_full, ev_iR, kR_1, kR_2, map_mkv_int, mkI_eq, rngI_eq, mkN_eq, ev_iR3, kR3_ok, rngC_eq, mkC_eq, ev_iM, kM_ok, kM2_some, mkEn_val, mkTp_val, ev_iZp, kZp_ok, mkZp_val, ev_lc, kLc_ok, kLcM_some, wipeE_nil, wipeE_cons, ev_byes, kE_val, kE_own, kE_full, kEl_some, kTl_some, ev_appAt, kAppAt_tuple, kAppAt_list, kAA_ok, ev_andI, ev_orI, ev_shr, ev_shl, List.getElem?_cons_zero, List.getElem?_cons_succ, List.set_cons_zero, List.set_cons_succ, List.all_nil, List.all_cons, Bool.and_true, Bool.true_and, Bool.or_true, Bool.true_or, Bool.or_false, Bool.false_or, Bool.and_false, Bool.false_and, Bool.not_true, Bool.not_false, Option.map_some, List.length_nil, List.length_cons, List.length_map, List.nil_append, List.map_cons, List.map_nil, scal_int, scal_bool, scal_str, scal_none, scal_list, scal_tuple, cd_true, cd_false, not_true_eq_false, not_false_eq_true, Nat.zero_le, and_self, true_and, and_true, ne_eq, not_false_eq_true, reduceIte, Nat.reduceLT, Nat.reduceLeDiff, Nat.reduceAdd, Nat.reduceMul, Nat.reduceSub, Nat.reduceEqDiff, Int.reduceLT, Int.reduceLE, Int.reduceAdd, Int.reduceSub, Int.reduceMul, Int.reduceNeg, Int.reduceToNat, Int.reduceEq, Int.reduceAbs, Int.reducePow, atI_0, atI_1, atI_2, atI_3, e1, cut, k1, all_scal]
  by_cases k0 : q3 = 0
  · subst k0
    simp only [f__law_spread, F__law_spread, ev_seq, kSeq_nx, kSeq_rt, kSeq_bk, kSeq_ct, kSeq_ex, ev_nil, ev_pass, ev_break, ev_cont, ev_retn, ev_fg, fgt_nil, fgt_cons, ev_gh, kGh_some, ev_gfrz, kFrz_some, ev_gown, kOwn_full, kOwn_own, kOwn_val, ev_setZ, kSetZ_val, kSetZ_own, kSetZ_full, kSetZ_ex, ev_set, kSet_val, kSet_own, kSet_full, kSet_ex, ev_ret, kRet_val, kRet_own, kRet_full, kRet_ex, ev_retO, kRetO_own, kRetO_val, kRetO_full, ev_expr, kExpr_ok, kExpr_ex, ev_if, kIf_true, kIf_false, ev_for, kFor_ok, ev_while, ev_turn, kTurn1_some, kTurn_nx, kTurn_ct, kTurn_bk, kTurn_rt, kTurn_ex, ev_wturn, kW_true, kW_false, ev_gN, ev_gT, kT_some, itemsT_val, gSets_nil, gSets_val, mkv_int, mkv_bool, mkv_str, mkv_none, mkv_list, mkv_tuple, ev_unp, kUnp_val, kUnp_full, kU_some, ev_aug, kAug_val, kA_some, ev_app, kApp_val, kApp_own, kApp_full, ev_put, kPut_val, callF_eq, entE_nil, unds_succ, unds_zero, entE_cons, entS_int, entS_bool, entS_str, entS_none, entS_list, entS_tuple, kF_nx, kF_rt, kF_ex, frOf_val, frOf_own, frOf_full, ev_var, kVar_val, kVar_own, kVar_full, ev_c, ev_e2, k2_ok, okO_some, ev_e1, k1_ok, frz_val, frz_own, frz_full, frz_bor, frz_brf, dat_val, dat_bor, dat_brf, ev_evs0, ev_evs, kC_ok, ev_cb, kCB_ok, ev_call, kCall_ok, ev_cres, kRs_some, kRes_int, kRes_bool, kRes_str, kRes_none, kRes_list, kRes_tuple, kRes_false, kRes_exc, dats_nil, dats_cons, kD_some, isVal_val, isVal_bor, isVal_brf, ev_isa, kIsa_val, kIsa_own, kIsa_bor, kIsa_full, kIsa_brf, ev_and, kAnd_val, kAnd2_true, kAnd2_false, kAnd2_val, ev_or, kOr_val, kOr2_true, kOr2_false, kOr2_val, ev_not, kNot_val, ev_ife, kIfE_true, kIfE_false, ev_bof, kB_val, ev_tof, kTo_val, kTo_own, kTo_bor, kTo_full, kTo_brf, okB_some, truth_bool, truth_int, truth_none, truth_list, truth_tuple, ev_bnot, kNotB_ok, ev_band, kAndB_ok, kAndB2_true, kAndB2_false, kAndB2_ok, ev_bor, kOrB_ok, kOrB2_true, kOrB2_false, kOrB2_ok, ev_chain, kCh_ok, kCh2_false, kCh2_true, ev_fD, kD2_some, kS_int, kS_bool, kS_str, kS_none, ev_sub, ev_addI, ev_iadd, ev_div, ev_mod, ev_pow, ev_mulI, ev_neg, ev_eqI, ev_neI, ev_ltI, ev_leI, ev_gtI, ev_geI, ev_fD1, kD1_some, ev_int, ev_intb, ev_abs, ev_lenL, ev_lenT, ev_fI2, ev_catVV, ev_repV, ev_list, kLst_ok, ev_tup, kTup_ok, kMk_some, kMkT_some, stors_nil, stors_cons, kSt_some, stor_val, ev_ixL, ev_ixT, ev_ixB, atI_cast, atI_0, atI_1, atI_2, atI_3, atI_4, atI_5, atI_6, atI_7, ev_slice, kSl_val, kSl_own, kSl_bor, kSl_full, ev_pN, ev_pS, kP_int, ev_rev, ev_ls, ev_lsT, ev_tl, all_scal, ev_sorted, kSo_some, ev_iL, kIL_val, kIL_own, kIL_full, ev_iR, kR_1, kR_2, map_mkv_int, mkI_eq, rngI_eq, mkN_eq, ev_iR3, kR3_ok, rngC_eq, mkC_eq, ev_iM, kM_ok, kM2_some, mkEn_val, mkTp_val, ev_iZp, kZp_ok, mkZp_val, ev_lc, kLc_ok, kLcM_some, wipeE_nil, wipeE_cons, ev_byes, kE_val, kE_own, kE_full, kEl_some, kTl_some, ev_appAt, kAppAt_tuple, kAppAt_list, kAA_ok, ev_andI, ev_orI, ev_shr, ev_shl, List.getElem?_cons_zero, List.getElem?_cons_succ, List.set_cons_zero, List.set_cons_succ, List.all_nil, List.all_cons, Bool.and_true, Bool.true_and, Bool.or_true, Bool.true_or, Bool.or_false, Bool.false_or, Bool.and_false, Bool.false_and, Bool.not_true, Bool.not_false, Option.map_some, List.length_nil, List.length_cons, List.length_map, List.nil_append, List.map_cons, List.map_nil, scal_int, scal_bool, scal_str, scal_none, scal_list, scal_tuple, cd_true, cd_false, not_true_eq_false, not_false_eq_true, Nat.zero_le, and_self, true_and, and_true, ne_eq, not_false_eq_true, reduceIte, Nat.reduceLT, Nat.reduceLeDiff, Nat.reduceAdd, Nat.reduceMul, Nat.reduceSub, Nat.reduceEqDiff, Int.reduceLT, Int.reduceLE, Int.reduceAdd, Int.reduceSub, Int.reduceMul, Int.reduceNeg, Int.reduceToNat, Int.reduceEq, Int.reduceAbs, Int.reducePow, flat_rep, List.length_replicate, Int.reduceToNat, d1, atI_0, atI_1, atI_2, atI_3, m1]
    exact key (((n1 : Int) - 20) * 1000000) (by omega) (by omega)
  · simp only [f__law_spread, F__law_spread, ev_seq, kSeq_nx, kSeq_rt, kSeq_bk, kSeq_ct, kSeq_ex, ev_nil, ev_pass, ev_break, ev_cont, ev_retn, ev_fg, fgt_nil, fgt_cons, ev_gh, kGh_some, ev_gfrz, kFrz_some, ev_gown, kOwn_full, kOwn_own, kOwn_val, ev_setZ, kSetZ_val, kSetZ_own, kSetZ_full, kSetZ_ex, ev_set, kSet_val, kSet_own, kSet_full, kSet_ex, ev_ret, kRet_val, kRet_own, kRet_full, kRet_ex, ev_retO, kRetO_own, kRetO_val, kRetO_full, ev_expr, kExpr_ok, kExpr_ex, ev_if, kIf_true, kIf_false, ev_for, kFor_ok, ev_while, ev_turn, kTurn1_some, kTurn_nx, kTurn_ct, kTurn_bk, kTurn_rt, kTurn_ex, ev_wturn, kW_true, kW_false, ev_gN, ev_gT, kT_some, itemsT_val, gSets_nil, gSets_val, mkv_int, mkv_bool, mkv_str, mkv_none, mkv_list, mkv_tuple, ev_unp, kUnp_val, kUnp_full, kU_some, ev_aug, kAug_val, kA_some, ev_app, kApp_val, kApp_own, kApp_full, ev_put, kPut_val, callF_eq, entE_nil, unds_succ, unds_zero, entE_cons, entS_int, entS_bool, entS_str, entS_none, entS_list, entS_tuple, kF_nx, kF_rt, kF_ex, frOf_val, frOf_own, frOf_full, ev_var, kVar_val, kVar_own, kVar_full, ev_c, ev_e2, k2_ok, okO_some, ev_e1, k1_ok, frz_val, frz_own, frz_full, frz_bor, frz_brf, dat_val, dat_bor, dat_brf, ev_evs0, ev_evs, kC_ok, ev_cb, kCB_ok, ev_call, kCall_ok, ev_cres, kRs_some, kRes_int, kRes_bool, kRes_str, kRes_none, kRes_list, kRes_tuple, kRes_false, kRes_exc, dats_nil, dats_cons, kD_some, isVal_val, isVal_bor, isVal_brf, ev_isa, kIsa_val, kIsa_own, kIsa_bor, kIsa_full, kIsa_brf, ev_and, kAnd_val, kAnd2_true, kAnd2_false, kAnd2_val, ev_or, kOr_val, kOr2_true, kOr2_false, kOr2_val, ev_not, kNot_val, ev_ife, kIfE_true, kIfE_false, ev_bof, kB_val, ev_tof, kTo_val, kTo_own, kTo_bor, kTo_full, kTo_brf, okB_some, truth_bool, truth_int, truth_none, truth_list, truth_tuple, ev_bnot, kNotB_ok, ev_band, kAndB_ok, kAndB2_true, kAndB2_false, kAndB2_ok, ev_bor, kOrB_ok, kOrB2_true, kOrB2_false, kOrB2_ok, ev_chain, kCh_ok, kCh2_false, kCh2_true, ev_fD, kD2_some, kS_int, kS_bool, kS_str, kS_none, ev_sub, ev_addI, ev_iadd, ev_div, ev_mod, ev_pow, ev_mulI, ev_neg, ev_eqI, ev_neI, ev_ltI, ev_leI, ev_gtI, ev_geI, ev_fD1, kD1_some, ev_int, ev_intb, ev_abs, ev_lenL, ev_lenT, ev_fI2, ev_catVV, ev_repV, ev_list, kLst_ok, ev_tup, kTup_ok, kMk_some, kMkT_some, stors_nil, stors_cons, kSt_some, stor_val, ev_ixL, ev_ixT, ev_ixB, atI_cast, atI_0, atI_1, atI_2, atI_3, atI_4, atI_5, atI_6, atI_7, ev_slice, kSl_val, kSl_own, kSl_bor, kSl_full, ev_pN, ev_pS, kP_int, ev_rev, ev_ls, ev_lsT, ev_tl, all_scal, ev_sorted, kSo_some, ev_iL, kIL_val, kIL_own, kIL_full, ev_iR, kR_1, kR_2, map_mkv_int, mkI_eq, rngI_eq, mkN_eq, ev_iR3, kR3_ok, rngC_eq, mkC_eq, ev_iM, kM_ok, kM2_some, mkEn_val, mkTp_val, ev_iZp, kZp_ok, mkZp_val, ev_lc, kLc_ok, kLcM_some, wipeE_nil, wipeE_cons, ev_byes, kE_val, kE_own, kE_full, kEl_some, kTl_some, ev_appAt, kAppAt_tuple, kAppAt_list, kAA_ok, ev_andI, ev_orI, ev_shr, ev_shl, List.getElem?_cons_zero, List.getElem?_cons_succ, List.set_cons_zero, List.set_cons_succ, List.all_nil, List.all_cons, Bool.and_true, Bool.true_and, Bool.or_true, Bool.true_or, Bool.or_false, Bool.false_or, Bool.and_false, Bool.false_and, Bool.not_true, Bool.not_false, Option.map_some, List.length_nil, List.length_cons, List.length_map, List.nil_append, List.map_cons, List.map_nil, scal_int, scal_bool, scal_str, scal_none, scal_list, scal_tuple, cd_true, cd_false, not_true_eq_false, not_false_eq_true, Nat.zero_le, and_self, true_and, and_true, ne_eq, not_false_eq_true, reduceIte, Nat.reduceLT, Nat.reduceLeDiff, Nat.reduceAdd, Nat.reduceMul, Nat.reduceSub, Nat.reduceEqDiff, Int.reduceLT, Int.reduceLE, Int.reduceAdd, Int.reduceSub, Int.reduceMul, Int.reduceNeg, Int.reduceToNat, Int.reduceEq, Int.reduceAbs, Int.reducePow, flat_rep, List.length_replicate, Int.reduceToNat, d1, atI_0, atI_1, atI_2, atI_3, k0]
    exact key ((n1 : Int) - 20) (by omega) (by omega)

end
end PF

namespace PF
open PySem PySem.Spec PyProof.Rows L2 PL
noncomputable section
theorem spD_okR {b st : Int} {cs : List Int} (hb : b.natAbs < 1000000000000) (hst : st.natAbs < 1000000000000) (h : ∀ c ∈ cs, c.natAbs < 1000000000000) : okR (spD b st cs) = true := by
  simp only [spD, okR, okRs, okRs_ints h, Bool.and_true, Bool.and_eq_true, decide_eq_true_eq]
  exact ⟨hb, hst⟩
theorem spD_nn {b st : Int} {cs : List Int} : nn (spD b st cs) = 42 * cs.length + 87 := by
  simp only [spD, nn, nns, nns_ints]; omega
theorem spD_depth {b st : Int} {cs : List Int} : (spD b st cs).depth = 2 := by
  simp only [spD, PyData.depth, PyData.depthAll, depths_ints]; omega
theorem spD_plain {b st : Int} {cs : List Int} : (spD b st cs).plain = true := by
  simp only [spD, PyData.plain, PyData.plainAll, plain_ints, Bool.and_self]
theorem gNe_spD (b st : Int) (cs : List Int) : gNe (spD b st cs) (spD b st cs) = some (.bool false) := gNe_self spD_plain (by rw [spD_depth]; omega)
theorem spD_repr {b st : Int} {cs : List Int} (hb : b.natAbs < 1000000000000) (hst : st.natAbs < 1000000000000) (h : ∀ c ∈ cs, c.natAbs < 1000000000000) (hl : cs.length ≤ 10000) : gRepr (spD b st cs) = some (.str (spD b st cs).shown) :=
  gRepr_ok (spD_okR hb hst h) (by rw [spD_nn]; omega) (by rw [spD_depth]; omega)
theorem mapsp_repr {s w : Nat} {o : Int} {t : List Int} {b st : Int} {cs : List Int} (hv : VMap s o w t) (hb : b.natAbs < 1000000000000) (hst : st.natAbs < 1000000000000) (h : ∀ c ∈ cs, c.natAbs < 1000000000000) (hl : cs.length ≤ 10000) : gRepr (.list [mapD s o w t, spD b st cs]) = some (.str (PyData.list [mapD s o w t, spD b st cs]).shown) := by
  refine gRepr_ok ?_ ?_ ?_
  · have h0 := mapD_okR hv
    have h1 := spD_okR hb hst h
    simp only [okR, okRs, Bool.and_true, Bool.and_eq_true] at h0 h1 ⊢
    exact ⟨h0, h1⟩
  · have h1 := pow46 hv.s4 hv.w6 (by have := hv.s2; omega)
    have h2 := hv.len
    simp only [nn, nns, nns_ints]
    omega
  · simp only [PyData.depth, PyData.depthAll, depths_ints]; omega
def C_law_k08_1 : EF := (e2 fAdd (e2 (fD gSub) (eVar 9) (e2 fIx (eVar 2) (eC (.int 1)))) (eVar 11))
def C_law_k08_2 : EF := (eCall PF.f__law_spread_cell [(eVar 3), (e2 fAdd (e2 fAdd (eVar 10) (e2 fIx (eVar 2) (eC (.int 1)))) (eVar 11))])
def B_law_k08_3 : SF := (sSeq (sIf (bOr (bOf (e2 (fD gNe) (eCall PF.f_spread_cell [(eVar 3), (eVar 10)]) (eCall PF.f__law_spread_cell [(eVar 3), (eVar 10)]))) (bOf (e2 (fD gNe) (eCall PF.f_spread_cell [(eVar 5), (eVar 10)]) (eCall PF.f__law_spread_cell [(eVar 3), (eVar 10)]))))
  (sRet (eC (.bool false)))
  sNil)
  (sSeq (sSetZ 12 (eLc (iR [(e2 fIx (eVar 2) (eC (.int 2)))]) [11] (gN 11) bYes PF.C_law_k08_2))
  (sIf (bOf (e2 (fD gNe) (eCall PF.f_spread_cell [(eVar 7), (eVar 10)]) (e2 fIx (e2 fIx (eVar 2) (eC (.int 3))) (eCall PF.f__law_index [(eVar 12), (e2 fIx (eVar 2) (eC (.int 0)))]))))
  (sRet (eC (.bool false)))
  sNil)))
def B_law_k08_4 : SF := (sSeq (sSetZ 2 (eCall PF.f__law_map [(eCall PF.f__law_cell [(eVar 0), (eVar 1)]), (eCall PF.f__law_cell [(eVar 0), (e2 fAdd (eVar 1) (eC (.int 1)))]), (eC (.int 130))]))
  (sSeq (sSetZ 3 (eCall PF.f__law_spread [(eCall PF.f__law_cell [(eVar 0), (e2 fAdd (eVar 1) (eC (.int 2)))]), (e2 fIx (eVar 2) (eC (.int 0)))]))
  (sSeq (sSetZ 4 (eCB (fD1 gRepr) [(eList [(eVar 2), (eVar 3)])]))
  (sSeq (sSet 5 (eCall PF.f_spread_simple [(eVar 3)]))
  (sSeq (sSetZ 6 (eCall PF.f__law_spread_simple [(eVar 3)]))
  (sSeq (sIf (bOr (bNot (tOf (eIsa PyData.isTuple (eVar 5)))) (bOr (bOf (e2 (fD gNe) (eVar 5) (eVar 6))) (bOr (bOf (e2 (fD gNe) (eCB (fD1 gRepr) [(eVar 5)]) (eCB (fD1 gRepr) [(eVar 6)]))) (bOf (e2 (fD gNe) (eCall PF.f_spread_simple [(eVar 5)]) (eVar 6))))))
  (sRet (eC (.bool false)))
  sNil)
  (sSeq (sSet 7 (eCall PF.f_spread_image [(eVar 2), (eVar 3)]))
  (sSeq (sSetZ 8 (eCall PF.f__law_spread_image [(eVar 2), (eVar 3)]))
  (sSeq (sIf (bOr (bNot (tOf (eIsa PyData.isTuple (eVar 7)))) (bOr (bOf (e2 (fD gNe) (eVar 7) (eVar 8))) (bOr (bOf (e2 (fD gNe) (eCB (fD1 gRepr) [(eVar 7)]) (eCB (fD1 gRepr) [(eVar 8)]))) (bOf (e2 (fD gNe) (eCall PF.f_spread_image [(eVar 2), (eVar 5)]) (eVar 8))))))
  (sRet (eC (.bool false)))
  sNil)
  (sSeq (sSetZ 9 (e2 fIx (eVar 3) (eC (.int 1))))
  (sSeq (sForD [10, 12] (iL (e2 fAdd (e2 fAdd (eLc (iR [(e1 fNeg (eC (.int 20))), (eC (.int 21))]) [11] (gN 11) bYes (e2 fAdd (eVar 9) (eVar 11))) (eLc (iR [(e1 fNeg (eC (.int 16))), (eC (.int 17))]) [11] (gN 11) bYes PF.C_law_k08_1)) (eList [(eC (.int 0)), (e2 (fD gPow) (eC (.int 10)) (eC (.int 15))), (e1 fNeg (e2 (fD gPow) (eC (.int 10)) (eC (.int 15))))]))) (gN 10)
  PF.B_law_k08_3)
  (sSeq (sAppAt 7 2 (eC (.int 1)))
  (sSeq (sAppAt 5 2 (eC (.int 1)))
  (sIf (bOr (bOf (e2 (fD gNe) (eCB (fD1 gRepr) [(eList [(eVar 2), (eVar 3)])]) (eVar 4))) (bOr (bOf (e2 (fD gNe) (eCall PF.f_spread_image [(eVar 2), (eVar 3)]) (eVar 8))) (bOf (e2 (fD gNe) (eCall PF.f_spread_simple [(eVar 3)]) (eVar 6)))))
  (sRet (eC (.bool false)))
  sNil))))))))))))))
def F_law_k08 : SF := (sSeq (sForD [1, 2, 3, 4, 5, 6, 7, 8, 9, 10, 12] (iR3 [(eC (.int 0)), (e2 fAdd (eCB (fD1 gLen) [(eVar 0)]) (eC (.int 3))), (eC (.int 3))]) (gN 1)
  PF.B_law_k08_4)
  (sRet (eC (.bool true))))
def f_law_k08 : FN := callF 13 F_law_k08
abbrev row08 (ns : List Int) : Ev := [.val false (.list (ns.map .int)), .und, .und, .und, .und, .und, .und, .und, .und, .und, .und, .und, .und]
abbrev env08 (ns : List Int) (k s : Nat) (o : Int) (w : Nat) (t : List Int) (b st : Int) (cs : List Int) (st1 : Int) (cs1 : List Int) (nb st3 : Int) (cs3 : List Int) (x10 x11 : Sl) : Ev :=
  [.val false (.list (ns.map .int)), .val true (.int ((k * 3 : Nat) : Int)), .val true (mapD s o w t), .val true (spD b st cs), .val true (.str (PyData.list [mapD s o w t, spD b st cs]).shown), .full (spD b st1 cs1), .val true (spD b st1 cs1), .full (spD nb st3 cs3), .val true (spD nb st3 cs3), .val true (.int st), x10, x11, .und]
theorem k08_turn (ns : List Int) (k : Nat) : turn [1, 2, 3, 4, 5, 6, 7, 8, 9, 10, 12] (gN 1) B_law_k08_4 (mkC 0 3 k) (row08 ns) = some (.nx (row08 ns)) := by
  obtain ⟨c0, h0⟩ := cell_ok ns (k * 3)
  obtain ⟨c1, h1⟩ := cell_ok ns (k * 3 + 1)
  obtain ⟨c2, h2⟩ := cell_ok ns (k * 3 + 2)
  rw [show ((k * 3 + 1 : Nat) : Int) = ((k * 3 : Nat) : Int) + 1 by omega] at h1
  rw [show ((k * 3 + 2 : Nat) : Int) = ((k * 3 : Nat) : Int) + 2 by omega] at h2
  have e0 : (0 : Int) + (k : Int) * 3 = ((k * 3 : Nat) : Int) := by omega
  obtain ⟨s, o, w, t, m1, hv, hm⟩ := map_ok c0 c1 130 (by decide)
  have s4 := hv.s4; have s2 := hv.s2; have w6 := hv.w6; have w1 := hv.w1; have o1 := hv.o1; have o2 := hv.o2
  have m1' : f__law_map [.int c0, .int c1, .int 130] = some (.ret true (mapD s o w t)) := m1
  obtain ⟨b, st, cs, p1, pb, pc, pl, pst⟩ := spread_ok c2 s s2 s4
  have s0 : 0 < s := by omega
  have sb : s < 18446744073709551616 := by omega
  have cb : ∀ c : Int, 0 ≤ c ∧ c < (s : Int) → c.natAbs < 1000000000000 := fun c hc => by omega
  have kept := mapsp_repr (b := b) (st := st) (cs := cs) hv (cb _ pb) (by omega) (fun c hc => cb _ (pc c hc)) (by omega)
  -- the simple form
  have S1 := spread_simple_ok (b := b) (st := st) (cs := cs) (by omega)
  have S2 := law_spread_simple_ok (b := b) (st := st) (cs := cs)
  have S12 := S1.eq S2 fun _ => rfl
  obtain ⟨st1, cs1, a1, a2, a3, a4, a5⟩ := S1
  rw [a1] at S12
  have S3 := spread_simple_ok (b := b) (st := st1) (cs := cs1) (by omega)
  have S3' : f_spread_simple [spD b st1 cs1] = some (.ret true (spD b st1 cs1)) := by
    obtain ⟨st2, cs2, b1, b2, b3, -⟩ := S3
    obtain ⟨u1, u2⟩ := simp_unique b2 a2 b3
    rw [b1, u1, u2]
  have cs1in : ∀ c ∈ cs1, 0 ≤ c ∧ c < (s : Int) := fun c hc => pc c (a4 c hc)
  have st1b : st1.natAbs < 1000000000 := by
    rcases a2 with ⟨z1, z2⟩ | z
    · rw [z2]; decide
    · have := simp_start (b := b) (st := st1) (st' := st) (cs := cs1) (cs' := cs) z
      by_cases hcs : cs = []
      · exact absurd (show False from simp_ne z (st' := st) (fun p => by rw [a3 p, hcs])) id
      · have l0 : 0 < cs1.length := List.length_pos_iff.mpr z.1
        have e1 := a3 (st1 + (0 : Nat))
        rw [sc_at l0] at e1
        obtain ⟨n, z1, z2⟩ := z
        rw [List.head_eq_getElem] at z1
        have : st ≤ st1 ∧ st1 < st + cs.length := by
          rcases Classical.em (st ≤ st1 + ((0 : Nat) : Int) ∧ st1 + ((0 : Nat) : Int) < st + cs.length) with y | y
          · omega
          · rw [sc_out y] at e1; exact absurd e1 z1
        omega
  have simR := spD_repr (b := b) (st := st1) (cs := cs1) (cb _ pb) (by omega) (fun c hc => cb _ (cs1in c hc)) (by omega)
  -- the image
  have I1 := spread_image_ok (o := o) s0 sb hv.len pb pc (by omega) w1 (by omega) (b := b) (st := st) (cs := cs)
  have I2 := law_spread_image_ok (o := o) s0 sb hv.len pb pc (by omega) w1 (by omega) (by omega) (by omega) (b := b) (st := st) (cs := cs)
  have I3 := spread_image_ok (o := o) s0 sb hv.len pb cs1in (by omega) w1 (by omega) (b := b) (st := st1) (cs := cs1)
  have I12 := I1.eq I2 fun _ => rfl
  have I13 := I1.eq I3 fun p => by rw [raw_sc w1, raw_sc w1, swin_congr a3]
  obtain ⟨st3, cs3, b1, b2, b3, b4, b5⟩ := I1
  rw [b1] at I12 I13
  have raws := raw_in (s := s) (w := w) (t := t) (b := b) (st := st) (cs := cs) s0 hv.cell
  have rawl := raw_len s w t b st cs
  have bi := newC_in s0 hv.cell (List.replicate w b)
  have cs3in : ∀ c ∈ cs3, 0 ≤ c ∧ c < (s : Int) := fun c hc => raws c (b4 c hc)
  have st3b : st3.natAbs < 1000000000 := by
    rcases b2 with ⟨z1, z2⟩ | z
    · rw [z2]; decide
    · have l0 : 0 < cs3.length := List.length_pos_iff.mpr z.1
      have e1 := b3 (st3 + (0 : Nat))
      rw [sc_at l0] at e1
      obtain ⟨n, z1, z2⟩ := z
      rw [List.head_eq_getElem] at z1
      have : st - o - w + 1 ≤ st3 ∧ st3 < st - o - w + 1 + (rawC s w t b st cs).length := by
        rcases Classical.em (st - o - w + 1 ≤ st3 + ((0 : Nat) : Int) ∧ st3 + ((0 : Nat) : Int) < st - o - w + 1 + (rawC s w t b st cs).length) with y | y
        · omega
        · rw [sc_out y] at e1; exact absurd e1 z1
      omega
  have imR := spD_repr (b := newC s t (List.replicate w b)) (st := st3) (cs := cs3) (cb _ bi) (by omega) (fun c hc => cb _ (cs3in c hc)) (by omega)
  have z3 : cs3.length < 16777216 := by omega
  have z1 : cs1.length < 16777216 := by omega
  have r1 : small62 (-20) = true := small62_ok (by decide) (by decide)
  have r2 : small62 21 = true := small62_ok (by decide) (by decide)
  have r3 : small62 (-16) = true := small62_ok (by decide) (by decide)
  have r4 : small62 17 = true := small62_ok (by decide) (by decide)
  have r6 : small62 (w : Int) = true := small62_ok (by omega) (by omega)
  have gn := gNe_spD b st1 cs1
  have gi := gNe_spD (newC s t (List.replicate w b)) st3 cs3
  generalize hnb : newC s t (List.replicate w b) = nb at *
  obtain ⟨l1, u1, u2, -⟩ := lcL_ints (t := gN 11) (elt := e2 fAdd (eVar 9) (eVar 11)) (ρ := env08 ns k s o w t b st cs st1 cs1 nb st3 cs3 .und .und) (mk := mkN (-20)) (Q := fun _ => True) (List.range 41) (fun j _ => by
    simp only [env08, ev_seq, kSeq_nx, kSeq_rt, kSeq_bk, kSeq_ct, kSeq_ex, ev_nil, ev_pass, ev_break, ev_cont, ev_retn, ev_fg, fgt_nil, fgt_cons, ev_gh, kGh_some, ev_gfrz, kFrz_some, ev_gown, kOwn_full, kOwn_own, kOwn_val, ev_setZ, kSetZ_val, kSetZ_own, kSetZ_full, kSetZ_ex, ev_set, kSet_val, kSet_own, kSet_full, kSet_ex, ev_ret, kRet_val, kRet_own, kRet_full, kRet_ex, ev_retO, kRetO_own, kRetO_val, kRetO_full, ev_expr, kExpr_ok, kExpr_ex, ev_if, kIf_true, kIf_false, ev_for, kFor_ok, ev_while, ev_turn, kTurn1_some, kTurn_nx, kTurn_ct, kTurn_bk, kTurn_rt, kTurn_ex, ev_wturn, kW_true, kW_false, ev_gN, ev_gT, kT_some, itemsT_val, gSets_nil, gSets_val, mkv_int, mkv_bool, mkv_str, mkv_none, mkv_list, mkv_tuple, ev_unp, kUnp_val, kUnp_full, kU_some, ev_aug, kAug_val, kA_some, ev_app, kApp_val, kApp_own, kApp_full, ev_put, kPut_val, callF_eq, entE_nil, unds_succ, unds_zero, entE_cons, entS_int, entS_bool, entS_str, entS_none, entS_list, entS_tuple, kF_nx, kF_rt, kF_ex, frOf_val, frOf_own, frOf_full, ev_var, kVar_val, kVar_own, kVar_full, ev_c, ev_e2, k2_ok, okO_some, ev_e1, k1_ok, frz_val, frz_own, frz_full, frz_bor, frz_brf, dat_val, dat_bor, dat_brf, ev_evs0, ev_evs, kC_ok, ev_cb, kCB_ok, ev_call, kCall_ok, ev_cres, kRs_some, kRes_int, kRes_bool, kRes_str, kRes_none, kRes_list, kRes_tuple, kRes_false, kRes_exc, dats_nil, dats_cons, kD_some, isVal_val, isVal_bor, isVal_brf, ev_isa, kIsa_val, kIsa_own, kIsa_bor, kIsa_full, kIsa_brf, ev_and, kAnd_val, kAnd2_true, kAnd2_false, kAnd2_val, ev_or, kOr_val, kOr2_true, kOr2_false, kOr2_val, ev_not, kNot_val, ev_ife, kIfE_true, kIfE_false, ev_bof, kB_val, ev_tof, kTo_val, kTo_own, kTo_bor, kTo_full, kTo_brf, okB_some, truth_bool, truth_int, truth_none, truth_list, truth_tuple, ev_bnot, kNotB_ok, ev_band, kAndB_ok, kAndB2_true, kAndB2_false, kAndB2_ok, ev_bor, kOrB_ok, kOrB2_true, kOrB2_false, kOrB2_ok, ev_chain, kCh_ok, kCh2_false, kCh2_true, ev_fD, kD2_some, kS_int, kS_bool, kS_str, kS_none, ev_sub, ev_addI, ev_iadd, ev_div, ev_mod, ev_pow, ev_mulI, ev_neg, ev_eqI, ev_neI, ev_ltI, ev_leI, ev_gtI, ev_geI, ev_fD1, kD1_some, ev_int, ev_intb, ev_abs, ev_lenL, ev_lenT, ev_fI2, ev_catVV, ev_repV, ev_list, kLst_ok, ev_tup, kTup_ok, kMk_some, kMkT_some, stors_nil, stors_cons, kSt_some, stor_val, ev_ixL, ev_ixT, ev_ixB, atI_cast, atI_0, atI_1, atI_2, atI_3, atI_4, atI_5, atI_6, atI_7, ev_slice, kSl_val, kSl_own, kSl_bor, kSl_full, ev_pN, ev_pS, kP_int, ev_rev, ev_ls, ev_lsT, ev_tl, all_scal, ev_sorted, kSo_some, ev_iL, kIL_val, kIL_own, kIL_full, ev_iR, kR_1, kR_2, map_mkv_int, mkI_eq, rngI_eq, mkN_eq, ev_iR3, kR3_ok, rngC_eq, mkC_eq, ev_iM, kM_ok, kM2_some, mkEn_val, mkTp_val, ev_iZp, kZp_ok, mkZp_val, ev_lc, kLc_ok, kLcM_some, wipeE_nil, wipeE_cons, ev_byes, kE_val, kE_own, kE_full, kEl_some, kTl_some, ev_appAt, kAppAt_tuple, kAppAt_list, kAA_ok, ev_andI, ev_orI, ev_shr, ev_shl, List.getElem?_cons_zero, List.getElem?_cons_succ, List.set_cons_zero, List.set_cons_succ, List.all_nil, List.all_cons, Bool.and_true, Bool.true_and, Bool.or_true, Bool.true_or, Bool.or_false, Bool.false_or, Bool.and_false, Bool.false_and, Bool.not_true, Bool.not_false, Option.map_some, List.length_nil, List.length_cons, List.length_map, List.nil_append, List.map_cons, List.map_nil, scal_int, scal_bool, scal_str, scal_none, scal_list, scal_tuple, cd_true, cd_false, not_true_eq_false, not_false_eq_true, Nat.zero_le, and_self, true_and, and_true, ne_eq, not_false_eq_true, reduceIte, Nat.reduceLT, Nat.reduceLeDiff, Nat.reduceAdd, Nat.reduceMul, Nat.reduceSub, Nat.reduceEqDiff, Int.reduceLT, Int.reduceLE, Int.reduceAdd, Int.reduceSub, Int.reduceMul, Int.reduceNeg, Int.reduceToNat, Int.reduceEq, Int.reduceAbs, Int.reducePow, mkN_eq]
    exact ⟨_, rfl⟩)
  obtain ⟨l2, u3, u4, -⟩ := lcL_ints (t := gN 11) (elt := C_law_k08_1) (ρ := env08 ns k s o w t b st cs st1 cs1 nb st3 cs3 .und .und) (mk := mkN (-16)) (Q := fun _ => True) (List.range 33) (fun j _ => by
    simp only [env08, C_law_k08_1, ev_seq, kSeq_nx, kSeq_rt, kSeq_bk, kSeq_ct, kSeq_ex, ev_nil, ev_pass, ev_break, ev_cont, ev_retn, ev_fg, fgt_nil, fgt_cons, ev_gh, kGh_some, ev_gfrz, kFrz_some, ev_gown, kOwn_full, kOwn_own, kOwn_val, ev_setZ, kSetZ_val, kSetZ_own, kSetZ_full, kSetZ_ex, ev_set, kSet_val, kSet_own, kSet_full, kSet_ex, ev_ret, kRet_val, kRet_own, kRet_full, kRet_ex, ev_retO, kRetO_own, kRetO_val, kRetO_full, ev_expr, kExpr_ok, kExpr_ex, ev_if, kIf_true, kIf_false, ev_for, kFor_ok, ev_while, ev_turn, kTurn1_some, kTurn_nx, kTurn_ct, kTurn_bk, kTurn_rt, kTurn_ex, ev_wturn, kW_true, kW_false, ev_gN, ev_gT, kT_some, itemsT_val, gSets_nil, gSets_val, mkv_int, mkv_bool, mkv_str, mkv_none, mkv_list, mkv_tuple, ev_unp, kUnp_val, kUnp_full, kU_some, ev_aug, kAug_val, kA_some, ev_app, kApp_val, kApp_own, kApp_full, ev_put, kPut_val, callF_eq, entE_nil, unds_succ, unds_zero, entE_cons, entS_int, entS_bool, entS_str, entS_none, entS_list, entS_tuple, kF_nx, kF_rt, kF_ex, frOf_val, frOf_own, frOf_full, ev_var, kVar_val, kVar_own, kVar_full, ev_c, ev_e2, k2_ok, okO_some, ev_e1, k1_ok, frz_val, frz_own, frz_full, frz_bor, frz_brf, dat_val, dat_bor, dat_brf, ev_evs0, ev_evs, kC_ok, ev_cb, kCB_ok, ev_call, kCall_ok, ev_cres, kRs_some, kRes_int, kRes_bool, kRes_str, kRes_none, kRes_list, kRes_tuple, kRes_false, kRes_exc, dats_nil, dats_cons, kD_some, isVal_val, isVal_bor, isVal_brf, ev_isa, kIsa_val, kIsa_own, kIsa_bor, kIsa_full, kIsa_brf, ev_and, kAnd_val, kAnd2_true, kAnd2_false, kAnd2_val, ev_or, kOr_val, kOr2_true, kOr2_false, kOr2_val, ev_not, kNot_val, ev_ife, kIfE_true, kIfE_false, ev_bof, kB_val, ev_tof, kTo_val, kTo_own, kTo_bor, kTo_full, kTo_brf, okB_some, truth_bool, truth_int, truth_none, truth_list, truth_tuple, ev_bnot, kNotB_ok, ev_band, kAndB_ok, kAndB2_true, kAndB2_false, kAndB2_ok, ev_bor, kOrB_ok, kOrB2_true, kOrB2_false, kOrB2_ok, ev_chain, kCh_ok, kCh2_false, kCh2_true, ev_fD, kD2_some, kS_int, kS_bool, kS_str, kS_none, ev_sub, ev_addI, ev_iadd, ev_div, ev_mod, ev_pow, ev_mulI, ev_neg, ev_eqI, ev_neI, ev_ltI, ev_leI, ev_gtI, ev_geI, ev_fD1, kD1_some, ev_int, ev_intb, ev_abs, ev_lenL, ev_lenT, ev_fI2, ev_catVV, ev_repV, ev_list, kLst_ok, ev_tup, kTup_ok, kMk_some, kMkT_some, stors_nil, stors_cons, kSt_some, stor_val, ev_ixL, ev_ixT, ev_ixB, atI_cast, atI_0, atI_1, atI_2, atI_3, atI_4, atI_5, atI_6, atI_7, ev_slice, kSl_val, kSl_own, kSl_bor, kSl_full, ev_pN, ev_pS, kP_int, ev_rev, ev_ls, ev_lsT, ev_tl, all_scal, ev_sorted, kSo_some, ev_iL, kIL_val, kIL_own, kIL_full, ev_iR, kR_1, kR_2, map_mkv_int, mkI_eq, rngI_eq, mkN_eq, ev_iR3, kR3_ok, rngC_eq, mkC_eq, ev_iM, kM_ok, kM2_some, mkEn_val, mkTp_val, ev_iZp, kZp_ok, mkZp_val, ev_lc, kLc_ok, kLcM_some, wipeE_nil, wipeE_cons, ev_byes, kE_val, kE_own, kE_full, kEl_some, kTl_some, ev_appAt, kAppAt_tuple, kAppAt_list, kAA_ok, ev_andI, ev_orI, ev_shr, ev_shl, List.getElem?_cons_zero, List.getElem?_cons_succ, List.set_cons_zero, List.set_cons_succ, List.all_nil, List.all_cons, Bool.and_true, Bool.true_and, Bool.or_true, Bool.true_or, Bool.or_false, Bool.false_or, Bool.and_false, Bool.false_and, Bool.not_true, Bool.not_false, Option.map_some, List.length_nil, List.length_cons, List.length_map, List.nil_append, List.map_cons, List.map_nil, scal_int, scal_bool, scal_str, scal_none, scal_list, scal_tuple, cd_true, cd_false, not_true_eq_false, not_false_eq_true, Nat.zero_le, and_self, true_and, and_true, ne_eq, not_false_eq_true, reduceIte, Nat.reduceLT, Nat.reduceLeDiff, Nat.reduceAdd, Nat.reduceMul, Nat.reduceSub, Nat.reduceEqDiff, Int.reduceLT, Int.reduceLE, Int.reduceAdd, Int.reduceSub, Int.reduceMul, Int.reduceNeg, Int.reduceToNat, Int.reduceEq, Int.reduceAbs, Int.reducePow, mkN_eq, atI_1]
    exact ⟨_, rfl⟩)
  rw [List.length_range] at u2 u4
  have eL : l1.map PyData.int ++ l2.map PyData.int ++ [.int 0, .int 1000000000000000, .int (-1000000000000000)] = (l1 ++ l2 ++ [0, 1000000000000000, -1000000000000000]).map .int := by
    rw [List.map_append, List.map_append]; rfl
  have q1 : l1.length ≤ 16777216 := by omega
  have q2 : l2.length ≤ 16777216 := by omega
  have q3 : l1.length + l2.length ≤ 16777216 := by omega
  have q5 : l1.length + l2.length + 3 ≤ 16777216 := by omega
  simp only [row08, B_law_k08_4, ev_seq, kSeq_nx, kSeq_rt, kSeq_bk, kSeq_ct, kSeq_ex, ev_nil, ev_pass, ev_break, ev_cont, ev_retn, ev_fg, fgt_nil, fgt_cons, ev_gh, kGh_some, ev_gfrz, kFrz_some, ev_gown, kOwn_full, kOwn_own, kOwn_val, ev_setZ, kSetZ_val, kSetZ_own, kSetZ_full, kSetZ_ex, ev_set, kSet_val, kSet_own, kSet_full, kSet_ex, ev_ret, kRet_val, kRet_own, kRet_full, kRet_ex, ev_retO, kRetO_own, kRetO_val, kRetO_full, ev_expr, kExpr_ok, kExpr_ex, ev_if, kIf_true, kIf_false, ev_for, kFor_ok, ev_while, ev_turn, kTurn1_some, kTurn_nx, kTurn_ct, kTurn_bk, kTurn_rt, kTurn_ex, ev_wturn, kW_true, kW_false, ev_gN, ev_gT, kT_some, itemsT_val, gSets_nil, gSets_val, mkv_int, mkv_bool, mkv_str, mkv_none, mkv_list, mkv_tuple, ev_unp, kUnp_val, kUnp_full, kU_some, ev_aug, kAug_val, kA_some, ev_app, kApp_val, kApp_own, kApp_full, ev_put, kPut_val, callF_eq, entE_nil, unds_succ, unds_zero, entE_cons, entS_int, entS_bool, entS_str, entS_none, entS_list, entS_tuple, kF_nx, kF_rt, kF_ex, frOf_val, frOf_own, frOf_full, ev_var, kVar_val, kVar_own, kVar_full, ev_c, ev_e2, k2_ok, okO_some, ev_e1, k1_ok, frz_val, frz_own, frz_full, frz_bor, frz_brf, dat_val, dat_bor, dat_brf, ev_evs0, ev_evs, kC_ok, ev_cb, kCB_ok, ev_call, kCall_ok, ev_cres, kRs_some, kRes_int, kRes_bool, kRes_str, kRes_none, kRes_list, kRes_tuple, kRes_false, kRes_exc, dats_nil, dats_cons, kD_some, isVal_val, isVal_bor, isVal_brf, ev_isa, kIsa_val, kIsa_own, kIsa_bor, kIsa_full, kIsa_brf, ev_and, kAnd_val, kAnd2_true, kAnd2_false, kAnd2_val, ev_or, kOr_val, kOr2_true, kOr2_false, kOr2_val, ev_not, kNot_val, ev_ife, kIfE_true, kIfE_false, ev_bof, kB_val, ev_tof, kTo_val, kTo_own, kTo_bor, kTo_full, kTo_brf, okB_some, truth_bool, truth_int, truth_none, truth_list, truth_tuple, ev_bnot, kNotB_ok, ev_band, kAndB_ok, kAndB2_true, kAndB2_false, kAndB2_ok, ev_bor, kOrB_ok, kOrB2_true, kOrB2_false, kOrB2_ok, ev_chain, kCh_ok, kCh2_false, kCh2_true, ev_fD, kD2_some, kS_int, kS_bool, kS_str, kS_none, ev_sub, ev_addI, ev_iadd, ev_div, ev_mod, ev_pow, ev_mulI, ev_neg, ev_eqI, ev_neI, ev_ltI, ev_leI, ev_gtI, ev_geI, ev_fD1, kD1_some, ev_int, ev_intb, ev_abs, ev_lenL, ev_lenT, ev_fI2, ev_catVV, ev_repV, ev_list, kLst_ok, ev_tup, kTup_ok, kMk_some, kMkT_some, stors_nil, stors_cons, kSt_some, stor_val, ev_ixL, ev_ixT, ev_ixB, atI_cast, atI_0, atI_1, atI_2, atI_3, atI_4, atI_5, atI_6, atI_7, ev_slice, kSl_val, kSl_own, kSl_bor, kSl_full, ev_pN, ev_pS, kP_int, ev_rev, ev_ls, ev_lsT, ev_tl, all_scal, ev_sorted, kSo_some, ev_iL, kIL_val, kIL_own, kIL_full, ev_iR, kR_1, kR_2, map_mkv_int, mkI_eq, rngI_eq, mkN_eq, ev_iR3, kR3_ok, rngC_eq, mkC_eq, ev_iM, kM_ok, kM2_some, mkEn_val, mkTp_val, ev_iZp, kZp_ok, mkZp_val, ev_lc, kLc_ok, kLcM_some, wipeE_nil, wipeE_cons, ev_byes, kE_val, kE_own, kE_full, kEl_some, kTl_some, ev_appAt, kAppAt_tuple, kAppAt_list, kAA_ok, ev_andI, ev_orI, ev_shr, ev_shl, List.getElem?_cons_zero, List.getElem?_cons_succ, List.set_cons_zero, List.set_cons_succ, List.all_nil, List.all_cons, Bool.and_true, Bool.true_and, Bool.or_true, Bool.true_or, Bool.or_false, Bool.false_or, Bool.and_false, Bool.false_and, Bool.not_true, Bool.not_false, Option.map_some, List.length_nil, List.length_cons, List.length_map, List.nil_append, List.map_cons, List.map_nil, scal_int, scal_bool, scal_str, scal_none, scal_list, scal_tuple, cd_true, cd_false, not_true_eq_false, not_false_eq_true, Nat.zero_le, and_self, true_and, and_true, ne_eq, not_false_eq_true, reduceIte, Nat.reduceLT, Nat.reduceLeDiff, Nat.reduceAdd, Nat.reduceMul, Nat.reduceSub, Nat.reduceEqDiff, Int.reduceLT, Int.reduceLE, Int.reduceAdd, Int.reduceSub, Int.reduceMul, Int.reduceNeg, Int.reduceToNat, Int.reduceEq, Int.reduceAbs, Int.reducePow, mkC_eq, e0, h1, h2, h0, m1', atI_0, atI_1, p1, kept, a1, ← S12, PyData.isTuple, gn, gi, gNe_str, simR, S3', b1, ← I12, ← I13, imR, r1, r2, r3, r4, rngI_eq, Int.reduceSub, Int.reduceToNat, u1, u3, q1, q2, q3, q5, List.length_append, all_scal, eL]
  refine forT_nx (fun l ρ => ρ = env08 ns k s o w t b st cs st1 cs1 nb st3 cs3 .und .und) (fun o => kTurn _ (kSeq o _) = _) rfl ?_ ?_
  · rintro pl l ρ rfl
    have key := lcL_map (t := gN 11) (elt := C_law_k08_2) (ρ := env08 ns k s o w t b st cs st1 cs1 nb st3 cs3 (.val true (.int pl)) .und) (mk := mkN 0) (r := fun (j : Nat) => .int (sc b st cs (pl + o + (j : Int)))) (List.range w) (fun j hj => by
      simp only [env08, C_law_k08_2, ev_seq, kSeq_nx, kSeq_rt, kSeq_bk, kSeq_ct, kSeq_ex, ev_nil, ev_pass, ev_break, ev_cont, ev_retn, ev_fg, fgt_nil, fgt_cons, ev_gh, kGh_some, ev_gfrz, kFrz_some, ev_gown, kOwn_full, kOwn_own, kOwn_val, ev_setZ, kSetZ_val, kSetZ_own, kSetZ_full, kSetZ_ex, ev_set, kSet_val, kSet_own, kSet_full, kSet_ex, ev_ret, kRet_val, kRet_own, kRet_full, kRet_ex, ev_retO, kRetO_own, kRetO_val, kRetO_full, ev_expr, kExpr_ok, kExpr_ex, ev_if, kIf_true, kIf_false, ev_for, kFor_ok, ev_while, ev_turn, kTurn1_some, kTurn_nx, kTurn_ct, kTurn_bk, kTurn_rt, kTurn_ex, ev_wturn, kW_true, kW_false, ev_gN, ev_gT, kT_some, itemsT_val, gSets_nil, gSets_val, mkv_int, mkv_bool, mkv_str, mkv_none, mkv_list, mkv_tuple, ev_unp, kUnp_val, kUnp_full, kU_some, ev_aug, kAug_val, kA_some, ev_app, kApp_val, kApp_own, kApp_full, ev_put, kPut_val, callF_eq, entE_nil, unds_succ, unds_zero, entE_cons, entS_int, entS_bool, entS_str, entS_none, entS_list, entS_tuple, kF_nx, kF_rt, kF_ex, frOf_val, frOf_own, frOf_full, ev_var, kVar_val, kVar_own, kVar_full, ev_c, ev_e2, k2_ok, okO_some, ev_e1, k1_ok, frz_val, frz_own, frz_full, frz_bor, frz_brf, dat_val, dat_bor, dat_brf, ev_evs0, ev_evs, kC_ok, ev_cb, kCB_ok, ev_call, kCall_ok, ev_cres, kRs_some, kRes_int, kRes_bool, kRes_str, kRes_none, kRes_list, kRes_tuple, kRes_false, kRes_exc, dats_nil, dats_cons, kD_some, isVal_val, isVal_bor, isVal_brf, ev_isa, kIsa_val, kIsa_own, kIsa_bor, kIsa_full, kIsa_brf, ev_and, kAnd_val, kAnd2_true, kAnd2_false, kAnd2_val, ev_or, kOr_val, kOr2_true, kOr2_false, kOr2_val, ev_not, kNot_val, ev_ife, kIfE_true, kIfE_false, ev_bof, kB_val, ev_tof, kTo_val, kTo_own, kTo_bor, kTo_full, kTo_brf, okB_some, truth_bool, truth_int, truth_none, truth_list, truth_tuple, ev_bnot, kNotB_ok, ev_band, kAndB_ok, kAndB2_true, kAndB2_false, kAndB2_ok, ev_bor, kOrB_ok, kOrB2_true, kOrB2_false, kOrB2_ok, ev_chain, kCh_ok, kCh2_false, kCh2_true, ev_fD, kD2_some, kS_int, kS_bool, kS_str, kS_none, ev_sub, ev_addI, ev_iadd, ev_div, ev_mod, ev_pow, ev_mulI, ev_neg, ev_eqI, ev_neI, ev_ltI, ev_leI, ev_gtI, ev_geI, ev_fD1, kD1_some, ev_int, ev_intb, ev_abs, ev_lenL, ev_lenT, ev_fI2, ev_catVV, ev_repV, ev_list, kLst_ok, ev_tup, kTup_ok, kMk_some, kMkT_some, stors_nil, stors_cons, kSt_some, stor_val, ev_ixL, ev_ixT, ev_ixB, atI_cast, atI_0, atI_1, atI_2, atI_3, atI_4, atI_5, atI_6, atI_7, ev_slice, kSl_val, kSl_own, kSl_bor, kSl_full, ev_pN, ev_pS, kP_int, ev_rev, ev_ls, ev_lsT, ev_tl, all_scal, ev_sorted, kSo_some, ev_iL, kIL_val, kIL_own, kIL_full, ev_iR, kR_1, kR_2, map_mkv_int, mkI_eq, rngI_eq, mkN_eq, ev_iR3, kR3_ok, rngC_eq, mkC_eq, ev_iM, kM_ok, kM2_some, mkEn_val, mkTp_val, ev_iZp, kZp_ok, mkZp_val, ev_lc, kLc_ok, kLcM_some, wipeE_nil, wipeE_cons, ev_byes, kE_val, kE_own, kE_full, kEl_some, kTl_some, ev_appAt, kAppAt_tuple, kAppAt_list, kAA_ok, ev_andI, ev_orI, ev_shr, ev_shl, List.getElem?_cons_zero, List.getElem?_cons_succ, List.set_cons_zero, List.set_cons_succ, List.all_nil, List.all_cons, Bool.and_true, Bool.true_and, Bool.or_true, Bool.true_or, Bool.or_false, Bool.false_or, Bool.and_false, Bool.false_and, Bool.not_true, Bool.not_false, Option.map_some, List.length_nil, List.length_cons, List.length_map, List.nil_append, List.map_cons, List.map_nil, scal_int, scal_bool, scal_str, scal_none, scal_list, scal_tuple, cd_true, cd_false, not_true_eq_false, not_false_eq_true, Nat.zero_le, and_self, true_and, and_true, ne_eq, not_false_eq_true, reduceIte, Nat.reduceLT, Nat.reduceLeDiff, Nat.reduceAdd, Nat.reduceMul, Nat.reduceSub, Nat.reduceEqDiff, Int.reduceLT, Int.reduceLE, Int.reduceAdd, Int.reduceSub, Int.reduceMul, Int.reduceNeg, Int.reduceToNat, Int.reduceEq, Int.reduceAbs, Int.reducePow, mkN_eq, Int.zero_add, atI_1, law_spread_cell_ok])
    have e5 : ((List.range w).map fun (j : Nat) => PyData.int (sc b st cs (pl + o + (j : Int)))) = (swin b st cs (pl + o) w).map .int := by
      unfold swin; rw [List.map_map]; rfl
    rw [e5] at key
    have ix2 := index_ok (swin b st cs (pl + o) w) s sb
    obtain ⟨m', m3, m4⟩ := win_at s0 hv.len (swin_len b st cs (pl + o) w) (swin_in (P := fun c => 0 ≤ c ∧ c < (s : Int)) pb pc (pl + o) w)
    rw [m3] at ix2
    have z7 : (swin b st cs (pl + o) w).length ≤ 16777216 := by rw [swin_len]; omega
    have im : sc nb st3 cs3 pl = newC s t (swin b st cs (pl + o) w) := by rw [b3, ← hnb, raw_sc w1]
    simp only [env08, B_law_k08_3, ev_seq, kSeq_nx, kSeq_rt, kSeq_bk, kSeq_ct, kSeq_ex, ev_nil, ev_pass, ev_break, ev_cont, ev_retn, ev_fg, fgt_nil, fgt_cons, ev_gh, kGh_some, ev_gfrz, kFrz_some, ev_gown, kOwn_full, kOwn_own, kOwn_val, ev_setZ, kSetZ_val, kSetZ_own, kSetZ_full, kSetZ_ex, ev_set, kSet_val, kSet_own, kSet_full, kSet_ex, ev_ret, kRet_val, kRet_own, kRet_full, kRet_ex, ev_retO, kRetO_own, kRetO_val, kRetO_full, ev_expr, kExpr_ok, kExpr_ex, ev_if, kIf_true, kIf_false, ev_for, kFor_ok, ev_while, ev_turn, kTurn1_some, kTurn_nx, kTurn_ct, kTurn_bk, kTurn_rt, kTurn_ex, ev_wturn, kW_true, kW_false, ev_gN, ev_gT, kT_some, itemsT_val, gSets_nil, gSets_val, mkv_int, mkv_bool, mkv_str, mkv_none, mkv_list, mkv_tuple, ev_unp, kUnp_val, kUnp_full, kU_some, ev_aug, kAug_val, kA_some, ev_app, kApp_val, kApp_own, kApp_full, ev_put, kPut_val, callF_eq, entE_nil, unds_succ, unds_zero, entE_cons, entS_int, entS_bool, entS_str, entS_none, entS_list, entS_tuple, kF_nx, kF_rt, kF_ex, frOf_val, frOf_own, frOf_full, ev_var, kVar_val, kVar_own, kVar_full, ev_c, ev_e2, k2_ok, okO_some, ev_e1, k1_ok, frz_val, frz_own, frz_full, frz_bor, frz_brf, dat_val, dat_bor, dat_brf, ev_evs0, ev_evs, kC_ok, ev_cb, kCB_ok, ev_call, kCall_ok, ev_cres, kRs_some, kRes_int, kRes_bool, kRes_str, kRes_none, kRes_list, kRes_tuple, kRes_false, kRes_exc, dats_nil, dats_cons, kD_some, isVal_val, isVal_bor, isVal_brf, ev_isa, kIsa_val, kIsa_own, kIsa_bor, kIsa_full, kIsa_brf, ev_and, kAnd_val, kAnd2_true, kAnd2_false, kAnd2_val, ev_or, kOr_val, kOr2_true, kOr2_false, kOr2_val, ev_not, kNot_val, ev_ife, kIfE_true, kIfE_false, ev_bof, kB_val, ev_tof, kTo_val, kTo_own, kTo_bor, kTo_full, kTo_brf, okB_some, truth_bool, truth_int, truth_none, truth_list, truth_tuple, ev_bnot, kNotB_ok, ev_band, kAndB_ok, kAndB2_true, kAndB2_false, kAndB2_ok, ev_bor, kOrB_ok, kOrB2_true, kOrB2_false, kOrB2_ok, ev_chain, kCh_ok, kCh2_false, kCh2_true, ev_fD, kD2_some, kS_int, kS_bool, kS_str, kS_none, ev_sub, ev_addI, ev_iadd, ev_div, ev_mod, ev_pow, ev_mulI, ev_neg, ev_eqI, ev_neI, ev_ltI, ev_leI, ev_gtI, ev_geI, ev_fD1, kD1_some, ev_int, ev_intb, ev_abs, ev_lenL, ev_lenT, ev_fI2, ev_catVV, ev_repV, ev_list, kLst_ok, ev_tup, kTup_ok, kMk_some, kMkT_some, stors_nil, stors_cons, kSt_some, stor_val, ev_ixL, ev_ixT, ev_ixB, atI_cast, atI_0, atI_1, atI_2, atI_3, atI_4, atI_5, atI_6, atI_7, ev_slice, kSl_val, kSl_own, kSl_bor, kSl_full, ev_pN, ev_pS, kP_int, ev_rev, ev_ls, ev_lsT, ev_tl, all_scal, ev_sorted, kSo_some, ev_iL, kIL_val, kIL_own, kIL_full, ev_iR, kR_1, kR_2, map_mkv_int, mkI_eq, rngI_eq, mkN_eq, ev_iR3, kR3_ok, rngC_eq, mkC_eq, ev_iM, kM_ok, kM2_some, mkEn_val, mkTp_val, ev_iZp, kZp_ok, mkZp_val, ev_lc, kLc_ok, kLcM_some, wipeE_nil, wipeE_cons, ev_byes, kE_val, kE_own, kE_full, kEl_some, kTl_some, ev_appAt, kAppAt_tuple, kAppAt_list, kAA_ok, ev_andI, ev_orI, ev_shr, ev_shl, List.getElem?_cons_zero, List.getElem?_cons_succ, List.set_cons_zero, List.set_cons_succ, List.all_nil, List.all_cons, Bool.and_true, Bool.true_and, Bool.or_true, Bool.true_or, Bool.or_false, Bool.false_or, Bool.and_false, Bool.false_and, Bool.not_true, Bool.not_false, Option.map_some, List.length_nil, List.length_cons, List.length_map, List.nil_append, List.map_cons, List.map_nil, scal_int, scal_bool, scal_str, scal_none, scal_list, scal_tuple, cd_true, cd_false, not_true_eq_false, not_false_eq_true, Nat.zero_le, and_self, true_and, and_true, ne_eq, not_false_eq_true, reduceIte, Nat.reduceLT, Nat.reduceLeDiff, Nat.reduceAdd, Nat.reduceMul, Nat.reduceSub, Nat.reduceEqDiff, Int.reduceLT, Int.reduceLE, Int.reduceAdd, Int.reduceSub, Int.reduceMul, Int.reduceNeg, Int.reduceToNat, Int.reduceEq, Int.reduceAbs, Int.reducePow, mkI_eq, spread_cell_ok, law_spread_cell_ok, a3, im, atI_0, atI_1, atI_2, atI_3, r6, rngI_eq, Int.sub_zero, Int.toNat_natCast, key, z7, ix2, atI_cast, m4]
    exact ⟨_, rfl, rfl⟩
  · rintro ρ rfl
    simp only [env08, ev_seq, kSeq_nx, kSeq_rt, kSeq_bk, kSeq_ct, kSeq_ex, ev_nil, ev_pass, ev_break, ev_cont, ev_retn, ev_fg, fgt_nil, fgt_cons, ev_gh, kGh_some, ev_gfrz, kFrz_some, ev_gown, kOwn_full, kOwn_own, kOwn_val, ev_setZ, kSetZ_val, kSetZ_own, kSetZ_full, kSetZ_ex, ev_set, kSet_val, kSet_own, kSet_full, kSet_ex, ev_ret, kRet_val, kRet_own, kRet_full, kRet_ex, ev_retO, kRetO_own, kRetO_val, kRetO_full, ev_expr, kExpr_ok, kExpr_ex, ev_if, kIf_true, kIf_false, ev_for, kFor_ok, ev_while, ev_turn, kTurn1_some, kTurn_nx, kTurn_ct, kTurn_bk, kTurn_rt, kTurn_ex, ev_wturn, kW_true, kW_false, ev_gN, ev_gT, kT_some, itemsT_val, gSets_nil, gSets_val, mkv_int, mkv_bool, mkv_str, mkv_none, mkv_list, mkv_tuple, ev_unp, kUnp_val, kUnp_full, kU_some, ev_aug, kAug_val, kA_some, ev_app, kApp_val, kApp_own, kApp_full, ev_put, kPut_val, callF_eq, entE_nil, unds_succ, unds_zero, entE_cons, entS_int, entS_bool, entS_str, entS_none, entS_list, entS_tuple, kF_nx, kF_rt, kF_ex, frOf_val, frOf_own, frOf_full, ev_var, kVar_val, kVar_own, kVar_full, ev_c, ev_e2, k2_ok, okO_some, ev_e1, k1_ok, frz_val, frz_own, frz_full, frz_bor, frz_brf, dat_val, dat_bor, dat_brf, ev_evs0, ev_evs, kC_ok, ev_cb, kCB_ok, ev_call, kCall_ok, ev_cres, kRs_some, kRes_int, kRes_bool, kRes_str, kRes_none, kRes_list, kRes_tuple, kRes_false, kRes_exc, dats_nil, dats_cons, kD_some, isVal_val, isVal_bor, isVal_brf, ev_isa, kIsa_val, kIsa_own, kIsa_bor, kIsa_full, kIsa_brf, ev_and, kAnd_val, kAnd2_true, kAnd2_false, kAnd2_val, ev_or, kOr_val, kOr2_true, kOr2_false, kOr2_val, ev_not, kNot_val, ev_ife, kIfE_true, kIfE_false, ev_bof, kB_val, ev_tof, kTo_val, kTo_own, kTo_bor, kTo_full, kTo_brf, okB_some, truth_bool, truth_int, truth_none, truth_list, truth_tuple, ev_bnot, kNotB_ok, ev_band, kAndB_ok, kAndB2_true, kAndB2_false, kAndB2_ok, ev_bor, kOrB_ok, kOrB2_true, kOrB2_false, kOrB2_ok, ev_chain, kCh_ok, kCh2_false, kCh2_true, ev_fD, kD2_some, kS_int, kS_bool, kS_str, kS_none, ev_sub, ev_addI, ev_iadd, ev_div, ev_mod, ev_pow, ev_mulI, ev_neg, ev_eqI, ev_neI, ev_ltI, ev_leI, ev_gtI, ev_geI, ev_fD1, kD1_some, ev_int, ev_intb, ev_abs, ev_lenL, ev_lenT, ev_fI2, ev_catVV, ev_repV, ev_list, kLst_ok, ev_tup, kTup_ok, kMk_some, kMkT_some, stors_nil, stors_cons, kSt_some, stor_val, ev_ixL, ev_ixT, ev_ixB, atI_cast, atI_0, atI_1, atI_2, atI_3, atI_4, atI_5, atI_6, atI_7, ev_slice, kSl_val, kSl_own, kSl_bor, kSl_full, ev_pN, ev_pS, kP_int, ev_rev, ev_ls, ev_lsT, ev_tl, all_scal, ev_sorted, kSo_some, ev_iL, kIL_val, kIL_own, kIL_full, ev_iR, kR_1, kR_2, map_mkv_int, mkI_eq, rngI_eq, mkN_eq, ev_iR3, kR3_ok, rngC_eq, mkC_eq, ev_iM, kM_ok, kM2_some, mkEn_val, mkTp_val, ev_iZp, kZp_ok, mkZp_val, ev_lc, kLc_ok, kLcM_some, wipeE_nil, wipeE_cons, ev_byes, kE_val, kE_own, kE_full, kEl_some, kTl_some, ev_appAt, kAppAt_tuple, kAppAt_list, kAA_ok, ev_andI, ev_orI, ev_shr, ev_shl, List.getElem?_cons_zero, List.getElem?_cons_succ, List.set_cons_zero, List.set_cons_succ, List.all_nil, List.all_cons, Bool.and_true, Bool.true_and, Bool.or_true, Bool.true_or, Bool.or_false, Bool.false_or, Bool.and_false, Bool.false_and, Bool.not_true, Bool.not_false, Option.map_some, List.length_nil, List.length_cons, List.length_map, List.nil_append, List.map_cons, List.map_nil, scal_int, scal_bool, scal_str, scal_none, scal_list, scal_tuple, cd_true, cd_false, not_true_eq_false, not_false_eq_true, Nat.zero_le, and_self, true_and, and_true, ne_eq, not_false_eq_true, reduceIte, Nat.reduceLT, Nat.reduceLeDiff, Nat.reduceAdd, Nat.reduceMul, Nat.reduceSub, Nat.reduceEqDiff, Int.reduceLT, Int.reduceLE, Int.reduceAdd, Int.reduceSub, Int.reduceMul, Int.reduceNeg, Int.reduceToNat, Int.reduceEq, Int.reduceAbs, Int.reducePow, atI_2, z1, z3, kept, b1, a1, gn, gi, gNe_str]
theorem plain_law_k08 (ns : List Int) (hl : ns.length ≤ 63) : f_law_k08 [.list (ns.map .int)] = some (.ret true (.bool true)) := by
  have r1 : (3 : Int) ≠ 0 ∧ (3 : Int).natAbs < 1073741824 ∧ Builtin.Range.small 0 ((ns.length : Int) + 3) 3 = true := small_up (by decide) (by decide) (by decide) (by decide) (by omega) (by omega)
  simp only [f_law_k08, F_law_k08, ev_seq, kSeq_nx, kSeq_rt, kSeq_bk, kSeq_ct, kSeq_ex, ev_nil, ev_pass, ev_break, ev_cont, ev_retn, ev_fg, fgt_nil, fgt_cons, ev_gh, kGh_some, ev_gfrz, kFrz_some, ev_gown, kOwn_full, kOwn_own, kOwn_val, ev_setZ, kSetZ_val, kSetZ_own, kSetZ_full, kSetZ_ex, ev_set, kSet_val, kSet_own, kSet_full, kSet_ex, ev_ret, kRet_val, kRet_own, kRet_full, kRet_ex, ev_retO, kRetO_own, kRetO_val, kRetO_full, ev_expr, kExpr_ok, kExpr_ex, ev_if, kIf_true, kIf_false, ev_for, kFor_ok, ev_while, ev_turn, kTurn1_some, kTurn_nx, kTurn_ct, kTurn_bk, kTurn_rt, kTurn_ex, ev_wturn, kW_true, kW_false, ev_gN, ev_gT, kT_some, itemsT_val, gSets_nil, gSets_val, mkv_int, mkv_bool, mkv_str, mkv_none, mkv_list, mkv_tuple, ev_unp, kUnp_val, kUnp_full, kU_some, ev_aug, kAug_val, kA_some, ev_app, kApp_val, kApp_own, kApp_full, ev_put, kPut_val, callF_eq, entE_nil, unds_succ, unds_zero, entE_cons, entS_int, entS_bool, entS_str, entS_none, entS_list, entS_tuple, kF_nx, kF_rt, kF_ex, frOf_val, frOf_own, frOf_full, ev_var, kVar_val, kVar_own, kVar_full, ev_c, ev_e2, k2_ok, okO_some, ev_e1, k1_ok, frz_val, frz_own, frz_full, frz_bor, frz_brf, dat_val, dat_bor, dat_brf, ev_evs0, ev_evs, kC_ok, ev_cb, kCB_ok, ev_call, kCall_ok, ev_cres, kRs_some, kRes_int, kRes_bool, kRes_str, kRes_none, kRes_list, kRes_tuple, kRes_false, kRes_exc, dats_nil, dats_cons, kD_some, isVal_val, isVal_bor, isVal_brf, ev_isa, kIsa_val, kIsa_own, kIsa_bor, kIsa_full, kIsa_brf, ev_and, kAnd_val, kAnd2_true, kAnd2_false, kAnd2_val, ev_or, kOr_val, kOr2_true, kOr2_false, kOr2_val, ev_not, kNot_val, ev_ife, kIfE_true, kIfE_false, ev_bof, kB_val, ev_tof, kTo_val, kTo_own, kTo_bor, kTo_full, kTo_brf, okB_some, truth_bool, truth_int, truth_none, truth_list, truth_tuple, ev_bnot, kNotB_ok, ev_band, kAndB_ok, kAndB2_true, kAndB2_false, kAndB2_ok, ev_bor, kOrB_ok, kOrB2_true, kOrB2_false, kOrB2_ok, ev_chain, kCh_ok, kCh2_false, kCh2_true, ev_fD, kD2_some, kS_int, kS_bool, kS_str, kS_none, ev_sub, ev_addI, ev_iadd, ev_div, ev_mod, ev_pow, ev_mulI, ev_neg, ev_eqI, ev_neI, ev_ltI, ev_leI, ev_gtI, ev_geI, ev_fD1, kD1_some, ev_int, ev_intb, ev_abs, ev_lenL, ev_lenT, ev_fI2, ev_catVV, ev_repV, ev_list, kLst_ok, ev_tup, kTup_ok, kMk_some, kMkT_some, stors_nil, stors_cons, kSt_some, stor_val, ev_ixL, ev_ixT, ev_ixB, atI_cast, atI_0, atI_1, atI_2, atI_3, atI_4, atI_5, atI_6, atI_7, ev_slice, kSl_val, kSl_own, kSl_bor, kSl_full, ev_pN, ev_pS, kP_int, ev_rev, ev_ls, ev_lsT, ev_tl, all_scal, ev_sorted, kSo_some, ev_iL, kIL_val, kIL_own, kIL_full, ev_iR, kR_1, kR_2, map_mkv_int, mkI_eq, rngI_eq, mkN_eq, ev_iR3, kR3_ok, rngC_eq, mkC_eq, ev_iM, kM_ok, kM2_some, mkEn_val, mkTp_val, ev_iZp, kZp_ok, mkZp_val, ev_lc, kLc_ok, kLcM_some, wipeE_nil, wipeE_cons, ev_byes, kE_val, kE_own, kE_full, kEl_some, kTl_some, ev_appAt, kAppAt_tuple, kAppAt_list, kAA_ok, ev_andI, ev_orI, ev_shr, ev_shl, List.getElem?_cons_zero, List.getElem?_cons_succ, List.set_cons_zero, List.set_cons_succ, List.all_nil, List.all_cons, Bool.and_true, Bool.true_and, Bool.or_true, Bool.true_or, Bool.or_false, Bool.false_or, Bool.and_false, Bool.false_and, Bool.not_true, Bool.not_false, Option.map_some, List.length_nil, List.length_cons, List.length_map, List.nil_append, List.map_cons, List.map_nil, scal_int, scal_bool, scal_str, scal_none, scal_list, scal_tuple, cd_true, cd_false, not_true_eq_false, not_false_eq_true, Nat.zero_le, and_self, true_and, and_true, ne_eq, not_false_eq_true, reduceIte, Nat.reduceLT, Nat.reduceLeDiff, Nat.reduceAdd, Nat.reduceMul, Nat.reduceSub, Nat.reduceEqDiff, Int.reduceLT, Int.reduceLE, Int.reduceAdd, Int.reduceSub, Int.reduceMul, Int.reduceNeg, Int.reduceToNat, Int.reduceEq, Int.reduceAbs, Int.reducePow, kR3_ok _ _ _ _ _ _ r1, rngC_eq]
  refine forT_nx (fun l ρ => ρ = row08 ns) (fun o => kF (kSeq o _) = _) rfl ?_ ?_
  · rintro a l ρ rfl
    exact ⟨_, k08_turn ns a, rfl⟩
  · rintro ρ rfl
    simp only [ev_seq, kSeq_nx, kSeq_rt, kSeq_bk, kSeq_ct, kSeq_ex, ev_nil, ev_pass, ev_break, ev_cont, ev_retn, ev_fg, fgt_nil, fgt_cons, ev_gh, kGh_some, ev_gfrz, kFrz_some, ev_gown, kOwn_full, kOwn_own, kOwn_val, ev_setZ, kSetZ_val, kSetZ_own, kSetZ_full, kSetZ_ex, ev_set, kSet_val, kSet_own, kSet_full, kSet_ex, ev_ret, kRet_val, kRet_own, kRet_full, kRet_ex, ev_retO, kRetO_own, kRetO_val, kRetO_full, ev_expr, kExpr_ok, kExpr_ex, ev_if, kIf_true, kIf_false, ev_for, kFor_ok, ev_while, ev_turn, kTurn1_some, kTurn_nx, kTurn_ct, kTurn_bk, kTurn_rt, kTurn_ex, ev_wturn, kW_true, kW_false, ev_gN, ev_gT, kT_some, itemsT_val, gSets_nil, gSets_val, mkv_int, mkv_bool, mkv_str, mkv_none, mkv_list, mkv_tuple, ev_unp, kUnp_val, kUnp_full, kU_some, ev_aug, kAug_val, kA_some, ev_app, kApp_val, kApp_own, kApp_full, ev_put, kPut_val, callF_eq, entE_nil, unds_succ, unds_zero, entE_cons, entS_int, entS_bool, entS_str, entS_none, entS_list, entS_tuple, kF_nx, kF_rt, kF_ex, frOf_val, frOf_own, frOf_full, ev_var, kVar_val, kVar_own, kVar_full, ev_c, ev_e2, k2_ok, okO_some, ev_e1, k1_ok, frz_val, frz_own, frz_full, frz_bor, frz_brf, dat_val, dat_bor, dat_brf, ev_evs0, ev_evs, kC_ok, ev_cb, kCB_ok, ev_call, kCall_ok, ev_cres, kRs_some, kRes_int, kRes_bool, kRes_str, kRes_none, kRes_list, kRes_tuple, kRes_false, kRes_exc, dats_nil, dats_cons, kD_some, isVal_val, isVal_bor, isVal_brf, ev_isa, kIsa_val, kIsa_own, kIsa_bor, kIsa_full, kIsa_brf, ev_and, kAnd_val, kAnd2_true, kAnd2_false, kAnd2_val, ev_or, kOr_val, kOr2_true, kOr2_false, kOr2_val, ev_not, kNot_val, ev_ife, kIfE_true, kIfE_false, ev_bof, kB_val, ev_tof, kTo_val, kTo_own, kTo_bor, kTo_full, kTo_brf, okB_some, truth_bool, truth_int, truth_none, truth_list, truth_tuple, ev_bnot, kNotB_ok, ev_band, kAndB_ok, kAndB2_true, kAndB2_false, kAndB2_ok, ev_bor, kOrB_ok, kOrB2_true, kOrB2_false, kOrB2_ok, ev_chain, kCh_ok, kCh2_false, kCh2_true, ev_fD, kD2_some, kS_int, kS_bool, kS_str, kS_none, ev_sub, ev_addI, ev_iadd, ev_div, ev_mod, ev_pow, ev_mulI, ev_neg, ev_eqI, ev_neI, ev_ltI, ev_leI, ev_gtI, ev_geI, ev_fD1, kD1_some, ev_int, ev_intb, ev_abs, ev_lenL, ev_lenT, ev_fI2, ev_catVV, ev_repV, ev_list, kLst_ok, ev_tup, kTup_ok, kMk_some, kMkT_some, stors_nil, stors_cons, kSt_some, stor_val, ev_ixL, ev_ixT, ev_ixB, atI_cast, atI_0, atI_1, atI_2, atI_3, atI_4, atI_5, atI_6, atI_7, ev_slice, kSl_val, kSl_own, kSl_bor, kSl_full, ev_pN, ev_pS, kP_int, ev_rev, ev_ls, ev_lsT, ev_tl, all_scal, ev_sorted, kSo_some, ev_iL, kIL_val, kIL_own, kIL_full, ev_iR, kR_1, kR_2, map_mkv_int, mkI_eq, rngI_eq, mkN_eq, ev_iR3, kR3_ok, rngC_eq, mkC_eq, ev_iM, kM_ok, kM2_some, mkEn_val, mkTp_val, ev_iZp, kZp_ok, mkZp_val, ev_lc, kLc_ok, kLcM_some, wipeE_nil, wipeE_cons, ev_byes, kE_val, kE_own, kE_full, kEl_some, kTl_some, ev_appAt, kAppAt_tuple, kAppAt_list, kAA_ok, ev_andI, ev_orI, ev_shr, ev_shl, List.getElem?_cons_zero, List.getElem?_cons_succ, List.set_cons_zero, List.set_cons_succ, List.all_nil, List.all_cons, Bool.and_true, Bool.true_and, Bool.or_true, Bool.true_or, Bool.or_false, Bool.false_or, Bool.and_false, Bool.false_and, Bool.not_true, Bool.not_false, Option.map_some, List.length_nil, List.length_cons, List.length_map, List.nil_append, List.map_cons, List.map_nil, scal_int, scal_bool, scal_str, scal_none, scal_list, scal_tuple, cd_true, cd_false, not_true_eq_false, not_false_eq_true, Nat.zero_le, and_self, true_and, and_true, ne_eq, not_false_eq_true, reduceIte, Nat.reduceLT, Nat.reduceLeDiff, Nat.reduceAdd, Nat.reduceMul, Nat.reduceSub, Nat.reduceEqDiff, Int.reduceLT, Int.reduceLE, Int.reduceAdd, Int.reduceSub, Int.reduceMul, Int.reduceNeg, Int.reduceToNat, Int.reduceEq, Int.reduceAbs, Int.reducePow]

end
end PF

namespace LK08
open PySem PySem.Spec PyProof.Rows L2 PL
def topS (i : Nat) : Stmt := PySem.Challenge.pw_edenrow_k08_spread_rows.main.body.getD i (.Pass ⟨0, 0, 0, 0⟩)
abbrev s__law_draws : Stmt := topS 10
abbrev N__law_draws : List Str := ["_law_cell_here", "_law_limits", "_law_found", "_law_rest", "_law_state", "_law_free", "_law_limit"]
theorem sc__law_draws : FnScope N__law_draws ["_law_cell_here", "_law_limits"] (defScope s__law_draws) := ⟨rfl, rfl, rfl, by decide +kernel, rfl, by decide +kernel, by decide +kernel⟩
abbrev s__law_power : Stmt := topS 11
abbrev N__law_power : List Str := ["_law_size", "_law_exponent", "_law_result", "_law_k"]
theorem sc__law_power : FnScope N__law_power ["_law_size", "_law_exponent"] (defScope s__law_power) := ⟨rfl, rfl, rfl, by decide +kernel, rfl, by decide +kernel, by decide +kernel⟩
abbrev s__law_digits : Stmt := topS 12
abbrev N__law_digits : List Str := ["_law_index_here", "_law_size", "_law_width", "_law_digits_here", "_law_rest", "_law_k"]
theorem sc__law_digits : FnScope N__law_digits ["_law_index_here", "_law_size", "_law_width"] (defScope s__law_digits) := ⟨rfl, rfl, rfl, by decide +kernel, rfl, by decide +kernel, by decide +kernel⟩
abbrev s__law_index : Stmt := topS 13
abbrev N__law_index : List Str := ["_law_cells", "_law_size", "_law_index_here", "_law_cell_here"]
theorem sc__law_index : FnScope N__law_index ["_law_cells", "_law_size"] (defScope s__law_index) := ⟨rfl, rfl, rfl, by decide +kernel, rfl, by decide +kernel, by decide +kernel⟩
abbrev s__law_table : Stmt := topS 14
abbrev N__law_table : List Str := ["_law_cell_here", "_law_size", "_law_width", "_law_count", "_law_kind", "_law_rest", "_law_draws_here", "_law_factors", "_law_k", "_law_j", "_law_places", "_law_low", "_law_high"]
theorem sc__law_table : FnScope N__law_table ["_law_cell_here", "_law_size", "_law_width"] (defScope s__law_table) := ⟨rfl, rfl, rfl, by decide +kernel, rfl, by decide +kernel, by decide +kernel⟩
abbrev s__law_map : Stmt := topS 15
abbrev N__law_map : List Str := ["_law_cell_here", "_law_more", "_law_most", "_law_draws_here", "_law_size", "_law_width", "_law_k", "_law_offset"]
theorem sc__law_map : FnScope N__law_map ["_law_cell_here", "_law_more", "_law_most"] (defScope s__law_map) := ⟨rfl, rfl, rfl, by decide +kernel, rfl, by decide +kernel, by decide +kernel⟩
abbrev s__law_cell : Stmt := topS 9
abbrev N__law_cell : List Str := ["_law_script", "_law_k"]
theorem sc__law_cell : FnScope N__law_cell ["_law_script", "_law_k"] (defScope s__law_cell) := ⟨rfl, rfl, rfl, by decide +kernel, rfl, by decide +kernel, by decide +kernel⟩
abbrev s__law_spread : Stmt := topS 24
abbrev N__law_spread : List Str := ["_law_cell_here", "_law_size", "_law_draws_here", "_law_start", "_law_cells"]
theorem sc__law_spread : FnScope N__law_spread ["_law_cell_here", "_law_size"] (defScope s__law_spread) := ⟨rfl, rfl, rfl, by decide +kernel, rfl, by decide +kernel, by decide +kernel⟩
abbrev s_spread_simple : Stmt := topS 5
abbrev N_spread_simple : List Str := ["row", "background", "start", "cells", "first", "last"]
theorem sc_spread_simple : FnScope N_spread_simple ["row"] (defScope s_spread_simple) := ⟨rfl, rfl, rfl, by decide +kernel, rfl, by decide +kernel, by decide +kernel⟩
abbrev s__law_spread_simple : Stmt := topS 22
abbrev N__law_spread_simple : List Str := ["_law_row", "_law_background", "_law_start", "_law_cells", "_law_first", "_law_last", "_law_cell_here"]
theorem sc__law_spread_simple : FnScope N__law_spread_simple ["_law_row"] (defScope s__law_spread_simple) := ⟨rfl, rfl, rfl, by decide +kernel, rfl, by decide +kernel, by decide +kernel⟩
abbrev s_number_of : Stmt := topS 1
abbrev N_number_of : List Str := ["size", "digits", "number", "digit"]
theorem sc_number_of : FnScope N_number_of ["size", "digits"] (defScope s_number_of) := ⟨rfl, rfl, rfl, by decide +kernel, rfl, by decide +kernel, by decide +kernel⟩
abbrev s_new_cell : Stmt := topS 2
abbrev N_new_cell : List Str := ["one", "window"]
theorem sc_new_cell : FnScope N_new_cell ["one", "window"] (defScope s_new_cell) := ⟨rfl, rfl, rfl, by decide +kernel, rfl, by decide +kernel, by decide +kernel⟩
abbrev s_apply_word : Stmt := topS 3
abbrev N_apply_word : List Str := ["one", "word", "width", "at"]
theorem sc_apply_word : FnScope N_apply_word ["one", "word"] (defScope s_apply_word) := ⟨rfl, rfl, rfl, by decide +kernel, rfl, by decide +kernel, by decide +kernel⟩
abbrev s_spread_image : Stmt := topS 7
abbrev N_spread_image : List Str := ["one", "row", "_", "offset", "width", "background", "start", "cells", "border", "changed"]
theorem sc_spread_image : FnScope N_spread_image ["one", "row"] (defScope s_spread_image) := ⟨rfl, rfl, rfl, by decide +kernel, rfl, by decide +kernel, by decide +kernel⟩
abbrev s__law_spread_cell : Stmt := topS 21
abbrev N__law_spread_cell : List Str := ["_law_row", "_law_place", "_law_background", "_law_start", "_law_cells"]
theorem sc__law_spread_cell : FnScope N__law_spread_cell ["_law_row", "_law_place"] (defScope s__law_spread_cell) := ⟨rfl, rfl, rfl, by decide +kernel, rfl, by decide +kernel, by decide +kernel⟩
abbrev s__law_spread_image : Stmt := topS 23
abbrev N__law_spread_image : List Str := ["_law_one", "_law_row", "_law_size", "_law_offset", "_law_width", "_law_table_here", "_law_background", "_law_start", "_law_cells", "_law_first", "_law_found", "_law_place", "_law_j"]
theorem sc__law_spread_image : FnScope N__law_spread_image ["_law_one", "_law_row"] (defScope s__law_spread_image) := ⟨rfl, rfl, rfl, by decide +kernel, rfl, by decide +kernel, by decide +kernel⟩
abbrev s_spread_cell : Stmt := topS 6
abbrev N_spread_cell : List Str := ["row", "place", "background", "start", "cells"]
theorem sc_spread_cell : FnScope N_spread_cell ["row", "place"] (defScope s_spread_cell) := ⟨rfl, rfl, rfl, by decide +kernel, rfl, by decide +kernel, by decide +kernel⟩
abbrev s_law : Stmt := topS 25
abbrev N_law : List Str := ["_law_script", "_law_k", "_law_one", "_law_row", "_law_kept", "_law_simple", "_law_due", "_law_image", "_law_told", "_law_middle", "_law_place", "_law_j", "_law_window"]
theorem sc_law : FnScope N_law ["_law_script"] (defScope s_law) := ⟨rfl, rfl, rfl, by decide +kernel, rfl, by decide +kernel, by decide +kernel⟩
structure Bl (mg : Str → Option Value) : Prop where
  b_len : mg "len" = none
  b_range : mg "range" = none
  b_repr : mg "repr" = none
  b_isinstance : mg "isinstance" = none
  b_tuple : mg "tuple" = none
  b_int : mg "int" = none
  b_abs : mg "abs" = none
  b_sum : mg "sum" = none
  b_min : mg "min" = none
  b_max : mg "max" = none
section
variable {P : Program} {w : World} {K : PySem.W.Frag} {mg : Str → Option Value} {base : Heap} {fa : Addr} {fd : FuncData}
theorem ok__law_draws (Fn : Fun K "_law_draws" "_law_draws" s__law_draws fa fd) (bl : Bl mg)  : FG P w K mg base 1 fa fd ["_law_cell_here", "_law_limits"] (spD K mg 2 PF.f__law_draws) :=
  FG.body (k := 0) (N := N__law_draws) Fn sc__law_draws fun cdv A outer s H B E hr hg => by
  have sc := sc__law_draws
  have tk : Takes (cxOf (L2.CX P w) P w K mg base N__law_draws "_law_draws" (defScope s__law_draws) fa cdv A outer s H E) (fun c d _ H => E c d H) := takes_of rfl rfl rfl rfl
  have hp : PassesOwn (model P w) (cxOf (L2.CX P w) P w K mg base N__law_draws "_law_draws" (defScope s__law_draws) fa cdv A outer s H E).A (cxOf (L2.CX P w) P w K mg base N__law_draws "_law_draws" (defScope s__law_draws) fa cdv A outer s H E).env (cxOf (L2.CX P w) P w K mg base N__law_draws "_law_draws" (defScope s__law_draws) fa cdv A outer s H E).xe := passes_of rfl
  exact (psdsCons (psdSet sc.nd (i := 2) rfl (Or.inl rfl) (pdList pdsNil))
  (psdsCons (psdSetZ sc.nd (i := 3) rfl (Or.inl rfl) (pdB1 crAbs bl.b_abs rfl (pdTy1 crInt bl.b_int rfl (pdVar (pv 0)))))
  (psdsCons (psdSetZ sc.nd (i := 4) rfl (Or.inl rfl) (pdMod (pdTy1 crInt bl.b_int rfl (pdVar (pv 3))) pdInt))
  (psdsCons (psdSetZ sc.nd (i := 5) rfl (Or.inl rfl) (pdOrV (pdLt hr (pdVar (pv 0)) pdInt) (pdOne (pdGe hr (pdVar (pv 0)) (pdPow pdInt pdInt)))))
  (psdsCons (psdForD (D := [6]) hp rfl (pidL (pdVar (pv 1))) (pgdName sc.nd (i := 6) rfl (Or.inl rfl))
  (psdsOne (psdIf ((pbAnd (pbTruth (pdVar (pv 5))) (pbAnd1 (pbGt hr (pdVar (pv 3)) pdInt)))).pb
  (psdsCons (psdApp (pv 2) (pdMod (pdTy1 crInt bl.b_int rfl (pdVar (pv 3))) (pdVar (pv 6))))
  (psdsOne (psdSetZ sc.nd (i := 3) rfl (Or.inl rfl) (pdDiv (pdVar (pv 3)) (pdVar (pv 6))))))
  (psdsCons (psdSetZ sc.nd (i := 4) rfl (Or.inl rfl) (pdMod (pdTy1 crInt bl.b_int rfl (pdAdd (pdMul (pdVar (pv 4)) pdInt) pdInt)) pdInt))
  (psdsCons (psdSetZ sc.nd (i := 4) rfl (Or.inl rfl) (pdMod (pdTy1 crInt bl.b_int rfl (pdAdd (pdMul (pdVar (pv 4)) pdInt) pdInt)) pdInt))
  (psdsOne (psdApp (pv 2) (pdMod (pdTy1 crInt bl.b_int rfl (pdDiv (pdVar (pv 4)) pdInt)) (pdVar (pv 6))))))))))
  (psdsFg (D := [3, 4]) (psdsOne (psdRetOwn (pv 2)))))))))
theorem ok__law_power (Fn : Fun K "_law_power" "_law_power" s__law_power fa fd) (bl : Bl mg)  : FG P w K mg base 1 fa fd ["_law_size", "_law_exponent"] (spD K mg 2 PF.f__law_power) :=
  FG.body (k := 0) (N := N__law_power) Fn sc__law_power fun cdv A outer s H B E hr hg => by
  have sc := sc__law_power
  have tk : Takes (cxOf (L2.CX P w) P w K mg base N__law_power "_law_power" (defScope s__law_power) fa cdv A outer s H E) (fun c d _ H => E c d H) := takes_of rfl rfl rfl rfl
  have hp : PassesOwn (model P w) (cxOf (L2.CX P w) P w K mg base N__law_power "_law_power" (defScope s__law_power) fa cdv A outer s H E).A (cxOf (L2.CX P w) P w K mg base N__law_power "_law_power" (defScope s__law_power) fa cdv A outer s H E).env (cxOf (L2.CX P w) P w K mg base N__law_power "_law_power" (defScope s__law_power) fa cdv A outer s H E).xe := passes_of rfl
  exact (psdsCons (psdSetZ sc.nd (i := 2) rfl (Or.inl rfl) pdInt)
  (psdsCons (psdForD (D := [3]) hp rfl (pidR1 bl.b_range (pdsCons (pdVar (pv 1)) pdsNil)) (pgdName sc.nd (i := 3) rfl (Or.inl rfl))
  (psdsOne (psdSetZ sc.nd (i := 2) rfl (Or.inl rfl) (pdMul (pdVar (pv 2)) (pdVar (pv 0))))))
  (psdsOne (psdRet (pdVar (pv 2))))))
theorem ok__law_digits (Fn : Fun K "_law_digits" "_law_digits" s__law_digits fa fd) (bl : Bl mg)  : FG P w K mg base 1 fa fd ["_law_index_here", "_law_size", "_law_width"] (spD K mg 3 PF.f__law_digits) :=
  FG.body (k := 0) (N := N__law_digits) Fn sc__law_digits fun cdv A outer s H B E hr hg => by
  have sc := sc__law_digits
  have tk : Takes (cxOf (L2.CX P w) P w K mg base N__law_digits "_law_digits" (defScope s__law_digits) fa cdv A outer s H E) (fun c d _ H => E c d H) := takes_of rfl rfl rfl rfl
  have hp : PassesOwn (model P w) (cxOf (L2.CX P w) P w K mg base N__law_digits "_law_digits" (defScope s__law_digits) fa cdv A outer s H E).A (cxOf (L2.CX P w) P w K mg base N__law_digits "_law_digits" (defScope s__law_digits) fa cdv A outer s H E).env (cxOf (L2.CX P w) P w K mg base N__law_digits "_law_digits" (defScope s__law_digits) fa cdv A outer s H E).xe := passes_of rfl
  exact (psdsCons (psdSetZ sc.nd (i := 3) rfl (Or.inl rfl) (pdList pdsNil))
  (psdsCons (psdSetZ sc.nd (i := 4) rfl (Or.inl rfl) (pdTy1 crInt bl.b_int rfl (pdVar (pv 0))))
  (psdsCons (psdForD (D := [5]) hp rfl (pidR1 bl.b_range (pdsCons (pdVar (pv 2)) pdsNil)) (pgdName sc.nd (i := 5) rfl (Or.inl rfl))
  (psdsCons (psdSetZ sc.nd (i := 3) rfl (Or.inl rfl) (pdAdd (pdList (pdsCons (pdMod (pdTy1 crInt bl.b_int rfl (pdVar (pv 4))) (pdVar (pv 1))) pdsNil)) (pdVar (pv 3))))
  (psdsOne (psdSetZ sc.nd (i := 4) rfl (Or.inl rfl) (pdDiv (pdVar (pv 4)) (pdVar (pv 1)))))))
  (psdsFg (D := [4]) (psdsOne (psdRet (pdVar (pv 3))))))))
theorem ok__law_index (Fn : Fun K "_law_index" "_law_index" s__law_index fa fd) (bl : Bl mg)  : FG P w K mg base 1 fa fd ["_law_cells", "_law_size"] (spD K mg 2 PF.f__law_index) :=
  FG.body (k := 0) (N := N__law_index) Fn sc__law_index fun cdv A outer s H B E hr hg => by
  have sc := sc__law_index
  have tk : Takes (cxOf (L2.CX P w) P w K mg base N__law_index "_law_index" (defScope s__law_index) fa cdv A outer s H E) (fun c d _ H => E c d H) := takes_of rfl rfl rfl rfl
  have hp : PassesOwn (model P w) (cxOf (L2.CX P w) P w K mg base N__law_index "_law_index" (defScope s__law_index) fa cdv A outer s H E).A (cxOf (L2.CX P w) P w K mg base N__law_index "_law_index" (defScope s__law_index) fa cdv A outer s H E).env (cxOf (L2.CX P w) P w K mg base N__law_index "_law_index" (defScope s__law_index) fa cdv A outer s H E).xe := passes_of rfl
  exact (psdsCons (psdSetZ sc.nd (i := 2) rfl (Or.inl rfl) pdInt)
  (psdsCons (psdForD (D := [3]) hp rfl (pidL (pdVar (pv 0))) (pgdName sc.nd (i := 3) rfl (Or.inl rfl))
  (psdsOne (psdSetZ sc.nd (i := 2) rfl (Or.inl rfl) (pdAdd (pdMul (pdVar (pv 2)) (pdVar (pv 1))) (pdVar (pv 3))))))
  (psdsOne (psdRet (pdVar (pv 2))))))
theorem ok__law_table (Fn : Fun K "_law_table" "_law_table" s__law_table fa fd) (bl : Bl mg) (h__law_power : Has P w K mg base 1 "_law_power" ["_law_size", "_law_exponent"] PF.f__law_power) (h__law_draws : Has P w K mg base 1 "_law_draws" ["_law_cell_here", "_law_limits"] PF.f__law_draws) (h__law_digits : Has P w K mg base 1 "_law_digits" ["_law_index_here", "_law_size", "_law_width"] PF.f__law_digits) (h__law_index : Has P w K mg base 1 "_law_index" ["_law_cells", "_law_size"] PF.f__law_index) : FG P w K mg base 2 fa fd ["_law_cell_here", "_law_size", "_law_width"] (spD K mg 3 PF.f__law_table) :=
  FG.body (k := 1) (N := N__law_table) Fn sc__law_table fun cdv A outer s H B E hr hg => by
  have sc := sc__law_table
  have tk : Takes (cxOf (L2.CX P w) P w K mg base N__law_table "_law_table" (defScope s__law_table) fa cdv A outer s H E) (fun c d _ H => E c d H) := takes_of rfl rfl rfl rfl
  have hp : PassesOwn (model P w) (cxOf (L2.CX P w) P w K mg base N__law_table "_law_table" (defScope s__law_table) fa cdv A outer s H E).A (cxOf (L2.CX P w) P w K mg base N__law_table "_law_table" (defScope s__law_table) fa cdv A outer s H E).env (cxOf (L2.CX P w) P w K mg base N__law_table "_law_table" (defScope s__law_table) fa cdv A outer s H E).xe := passes_of rfl
  exact (psdsCons (psdSetZ sc.nd (i := 3) rfl (Or.inl rfl) (pdCallH h__law_power hr hg tk (pdsCons (pdVar (pv 1)) (pdsCons (pdVar (pv 2)) pdsNil))))
  (psdsCons (psdSetZ sc.nd (i := 4) rfl (Or.inl rfl) (pdMod (pdTy1 crInt bl.b_int rfl (pdVar (pv 0))) pdInt))
  (psdsCons (psdSetZ sc.nd (i := 5) rfl (Or.inl rfl) (pdDiv (pdTy1 crInt bl.b_int rfl (pdVar (pv 0))) pdInt))
  (psdsCons (psdSetZ sc.nd (i := 6) rfl (Or.inr rfl) (pdCallH h__law_draws hr hg tk (pdsCons (pdVar (pv 5)) (pdsCons (pdMul (pdList (pdsCons (pdVar (pv 1)) pdsNil)) (pdVar (pv 3))) pdsNil))))
  (psdsCons (psdIf (pbLt hr (pdVar (pv 4)) pdInt)
  (psdsOne (psdRet (pdVar (pv 6))))
  psdsNil)
  (psdsCons (psdIf (pbEq hr (pdVar (pv 4)) pdInt)
  (psdsOne (psdRet (pdMul (pdList (pdsCons (pdIx (pdVar (pv 6)) pdInt) pdsNil)) (pdVar (pv 3)))))
  psdsNil)
  (psdsCons (psdSetZ sc.nd (i := 7) rfl (Or.inr rfl) (pdCallH h__law_draws hr hg tk (pdsCons (pdVar (pv 5)) (pdsCons (pdMul (pdList (pdsCons (pdVar (pv 1)) pdsNil)) (pdAdd (pdVar (pv 2)) pdInt)) pdsNil))))
  (psdsCons (psdIf (pbEq hr (pdVar (pv 4)) pdInt)
  (psdsOne (psdRet (pdLc (own := [("_law_k", 8)]) rfl sc.nd (pidR1 bl.b_range (pdsCons (pdVar (pv 3)) pdsNil)) (blkOk_by (own := [("_law_k", 8)]) (by kernel_rfl)) tg_name (keeps_name (by decide)) (fun _ _ _ _ _ => (pg_name (i := 8) sc.nd rfl (by first | exact Or.inl rfl | exact Or.inr rfl))) (fun _ _ _ _ _ => pbsNil) (fun _ _ _ _ _ => (pdMod (pdTy1 crInt bl.b_int rfl (pdAdd (pdB1 (crSum rfl) bl.b_sum rfl (pdLc (own := [("_law_j", 9)]) rfl sc.nd (pidR1 bl.b_range (pdsCons (pdVar (pv 2)) pdsNil)) (blkOk_by (own := [("_law_j", 9)]) (by kernel_rfl)) tg_name (keeps_name (by decide)) (fun _ _ _ _ _ => (pg_name (i := 9) sc.nd rfl (by first | exact Or.inl rfl | exact Or.inr rfl))) (fun _ _ _ _ _ => pbsNil) (fun _ _ _ _ _ => (pdMul (pdIx (pdVar (pv 7)) (pdVar (pv 9))) (pdIx (pdCallH h__law_digits hr hg takes0 (pdsCons (pdVar (pv 8)) (pdsCons (pdVar (pv 1)) (pdsCons (pdVar (pv 2)) pdsNil)))) (pdVar (pv 9))))))) (pdIx (pdVar (pv 7)) (pdVar (pv 2))))) (pdVar (pv 1)))))))
  psdsNil)
  (psdsCons (psdSetZ sc.nd (i := 10) rfl (Or.inr rfl) (pdCallH h__law_draws hr hg tk (pdsCons (pdVar (pv 5)) (pdsCons (pdList (pdsCons (pdVar (pv 2)) (pdsCons (pdVar (pv 2)) pdsNil))) pdsNil))))
  (psdsCons (psdIf (pbEq hr (pdVar (pv 4)) pdInt)
  (psdsOne (psdRet (pdLc (own := [("_law_k", 8)]) rfl sc.nd (pidR1 bl.b_range (pdsCons (pdVar (pv 3)) pdsNil)) (blkOk_by (own := [("_law_k", 8)]) (by kernel_rfl)) tg_name (keeps_name (by decide)) (fun _ _ _ _ _ => (pg_name (i := 8) sc.nd rfl (by first | exact Or.inl rfl | exact Or.inr rfl))) (fun _ _ _ _ _ => pbsNil) (fun _ _ _ _ _ => (pdIx (pdVar (pv 6)) (pdIx (pdCallH h__law_digits hr hg takes0 (pdsCons (pdVar (pv 8)) (pdsCons (pdVar (pv 1)) (pdsCons (pdVar (pv 2)) pdsNil)))) (pdIx (pdVar (pv 10)) pdInt)))))))
  psdsNil)
  (psdsCons (psdSetZ sc.nd (i := 11) rfl (Or.inr rfl) (pdB1 (crMin rfl) bl.b_min rfl (pdVar (pv 10))))
  (psdsCons (psdSetZ sc.nd (i := 12) rfl (Or.inr rfl) (pdB1 (crMax rfl) bl.b_max rfl (pdVar (pv 10))))
  (psdsOne (psdRet (pdLc (own := [("_law_k", 8)]) rfl sc.nd (pidR1 bl.b_range (pdsCons (pdVar (pv 3)) pdsNil)) (blkOk_by (own := [("_law_k", 8)]) (by kernel_rfl)) tg_name (keeps_name (by decide)) (fun _ _ _ _ _ => (pg_name (i := 8) sc.nd rfl (by first | exact Or.inl rfl | exact Or.inr rfl))) (fun _ _ _ _ _ => pbsNil) (fun _ _ _ _ _ => (pdIx (pdVar (pv 6)) (pdCallH h__law_index hr hg takes0 (pdsCons (pdSl (pdCallH h__law_digits hr hg takes0 (pdsCons (pdVar (pv 8)) (pdsCons (pdVar (pv 1)) (pdsCons (pdVar (pv 2)) pdsNil)))) (ppS (pdVar (pv 11))) (ppS (pdAdd (pdVar (pv 12)) pdInt))) (pdsCons (pdVar (pv 1)) pdsNil))))))))))))))))))))
theorem ok__law_map (Fn : Fun K "_law_map" "_law_map" s__law_map fa fd) (bl : Bl mg) (h__law_draws : Has P w K mg base 1 "_law_draws" ["_law_cell_here", "_law_limits"] PF.f__law_draws) (h__law_power : Has P w K mg base 1 "_law_power" ["_law_size", "_law_exponent"] PF.f__law_power) (h__law_table : Has P w K mg base 2 "_law_table" ["_law_cell_here", "_law_size", "_law_width"] PF.f__law_table) : FG P w K mg base 3 fa fd ["_law_cell_here", "_law_more", "_law_most"] (spD K mg 3 PF.f__law_map) :=
  FG.body (k := 2) (N := N__law_map) Fn sc__law_map fun cdv A outer s H B E hr hg => by
  have sc := sc__law_map
  have tk : Takes (cxOf (L2.CX P w) P w K mg base N__law_map "_law_map" (defScope s__law_map) fa cdv A outer s H E) (fun c d _ H => E c d H) := takes_of rfl rfl rfl rfl
  have hp : PassesOwn (model P w) (cxOf (L2.CX P w) P w K mg base N__law_map "_law_map" (defScope s__law_map) fa cdv A outer s H E).A (cxOf (L2.CX P w) P w K mg base N__law_map "_law_map" (defScope s__law_map) fa cdv A outer s H E).env (cxOf (L2.CX P w) P w K mg base N__law_map "_law_map" (defScope s__law_map) fa cdv A outer s H E).xe := passes_of rfl
  exact (psdsCons (psdSetZ sc.nd (i := 3) rfl (Or.inl rfl) (pdCallH h__law_draws hr hg tk (pdsCons (pdVar (pv 0)) (pdsCons (pdList (pdsCons pdInt (pdsCons pdInt (pdsCons pdInt (pdsCons pdInt pdsNil))))) pdsNil))))
  (psdsCons (psdSetZ sc.nd (i := 4) rfl (Or.inl rfl) (pdAdd pdInt (pdIx (pdVar (pv 3)) pdInt)))
  (psdsCons (psdSetZ sc.nd (i := 5) rfl (Or.inl rfl) (pdAdd pdInt (pdIx (pdVar (pv 3)) pdInt)))
  (psdsCons (psdForD (D := [6]) hp rfl (pidR1 bl.b_range (pdsCons pdInt pdsNil)) (pgdName sc.nd (i := 6) rfl (Or.inl rfl))
  (psdsOne (psdIf ((pbAnd (pbGt hr (pdVar (pv 5)) pdInt) (pbAnd1 (pbGt hr (pdCallH h__law_power hr hg tk (pdsCons (pdVar (pv 4)) (pdsCons (pdVar (pv 5)) pdsNil))) (pdVar (pv 2)))))).pb
  (psdsOne (psdSetZ sc.nd (i := 5) rfl (Or.inl rfl) (pdSub (pdVar (pv 5)) pdInt)))
  psdsNil)))
  (psdsCons (psdSetZ sc.nd (i := 7) rfl (Or.inl rfl) (pdIx (pdList (pdsCons pdInt (pdsCons (pdNeg pdInt) (pdsCons pdInt (pdsCons pdInt (pdsCons (pdNeg pdInt) (pdsCons (pdSub (pdIx (pdVar (pv 3)) pdInt) pdInt) (pdsCons (pdSub (pdIx (pdVar (pv 3)) pdInt) pdInt) pdsNil)))))))) (pdIx (pdVar (pv 3)) pdInt)))
  (psdsOne (psdRet (pdTup (pdsCons (pdVar (pv 4)) (pdsCons (pdVar (pv 7)) (pdsCons (pdVar (pv 5)) (pdsCons (pdCallH h__law_table hr hg tk (pdsCons (pdVar (pv 1)) (pdsCons (pdVar (pv 4)) (pdsCons (pdVar (pv 5)) pdsNil)))) pdsNil))))))))))))
theorem ok__law_cell (Fn : Fun K "_law_cell" "_law_cell" s__law_cell fa fd) (bl : Bl mg)  : FG P w K mg base 1 fa fd ["_law_script", "_law_k"] (spD K mg 2 PF.f__law_cell) :=
  FG.body (k := 0) (N := N__law_cell) Fn sc__law_cell fun cdv A outer s H B E hr hg => by
  have sc := sc__law_cell
  have tk : Takes (cxOf (L2.CX P w) P w K mg base N__law_cell "_law_cell" (defScope s__law_cell) fa cdv A outer s H E) (fun c d _ H => E c d H) := takes_of rfl rfl rfl rfl
  have hp : PassesOwn (model P w) (cxOf (L2.CX P w) P w K mg base N__law_cell "_law_cell" (defScope s__law_cell) fa cdv A outer s H E).A (cxOf (L2.CX P w) P w K mg base N__law_cell "_law_cell" (defScope s__law_cell) fa cdv A outer s H E).env (cxOf (L2.CX P w) P w K mg base N__law_cell "_law_cell" (defScope s__law_cell) fa cdv A outer s H E).xe := passes_of rfl
  exact (psdsCons (psdIf (pbLt hr (pdVar (pv 1)) (pdB1 crLen bl.b_len rfl (pdVar (pv 0))))
  (psdsOne (psdRet (pdTy1 crInt bl.b_int rfl (pdIx (pdVar (pv 0)) (pdVar (pv 1))))))
  psdsNil)
  (psdsOne (psdRet pdInt)))
theorem ok__law_spread (Fn : Fun K "_law_spread" "_law_spread" s__law_spread fa fd) (bl : Bl mg) (h__law_draws : Has P w K mg base 1 "_law_draws" ["_law_cell_here", "_law_limits"] PF.f__law_draws) : FG P w K mg base 2 fa fd ["_law_cell_here", "_law_size"] (spD K mg 2 PF.f__law_spread) :=
  FG.body (k := 1) (N := N__law_spread) Fn sc__law_spread fun cdv A outer s H B E hr hg => by
  have sc := sc__law_spread
  have tk : Takes (cxOf (L2.CX P w) P w K mg base N__law_spread "_law_spread" (defScope s__law_spread) fa cdv A outer s H E) (fun c d _ H => E c d H) := takes_of rfl rfl rfl rfl
  have hp : PassesOwn (model P w) (cxOf (L2.CX P w) P w K mg base N__law_spread "_law_spread" (defScope s__law_spread) fa cdv A outer s H E).A (cxOf (L2.CX P w) P w K mg base N__law_spread "_law_spread" (defScope s__law_spread) fa cdv A outer s H E).env (cxOf (L2.CX P w) P w K mg base N__law_spread "_law_spread" (defScope s__law_spread) fa cdv A outer s H E).xe := passes_of rfl
  exact (psdsCons (psdSetZ sc.nd (i := 2) rfl (Or.inl rfl) (pdCallH h__law_draws hr hg tk (pdsCons (pdVar (pv 0)) (pdsCons (pdAdd (pdList (pdsCons (pdVar (pv 1)) (pdsCons pdInt (pdsCons pdInt (pdsCons pdInt pdsNil))))) (pdMul (pdList (pdsCons (pdVar (pv 1)) pdsNil)) pdInt)) pdsNil))))
  (psdsCons (psdSetZ sc.nd (i := 3) rfl (Or.inl rfl) (pdSub (pdIx (pdVar (pv 2)) pdInt) pdInt))
  (psdsCons (psdIf (pbEq hr (pdIx (pdVar (pv 2)) pdInt) pdInt)
  (psdsOne (psdSetZ sc.nd (i := 3) rfl (Or.inl rfl) (pdMul (pdVar (pv 3)) pdInt)))
  psdsNil)
  (psdsCons (psdSetZ sc.nd (i := 4) rfl (Or.inl rfl) (pdSl (pdVar (pv 2)) (ppS pdInt) (ppS (pdAdd pdInt (pdIx (pdVar (pv 2)) pdInt)))))
  (psdsCons (psdIf (pbEq hr (pdIx (pdVar (pv 2)) pdInt) pdInt)
  (psdsOne (psdSetZ sc.nd (i := 4) rfl (Or.inl rfl) (pdAdd (pdAdd (pdMul (pdList (pdsCons (pdIx (pdVar (pv 2)) pdInt) pdsNil)) (pdAnd (pdIx (pdVar (pv 2)) pdInt) pdInt)) (pdVar (pv 4))) (pdMul (pdList (pdsCons (pdIx (pdVar (pv 2)) pdInt) pdsNil)) (pdAnd (pdDiv (pdIx (pdVar (pv 2)) pdInt) pdInt) pdInt)))))
  psdsNil)
  (psdsOne (psdRet (pdTup (pdsCons (pdIx (pdVar (pv 2)) pdInt) (pdsCons (pdVar (pv 3)) (pdsCons (pdVar (pv 4)) pdsNil)))))))))))
theorem ok_spread_simple (Fn : Fun K "spread_simple" "spread_simple" s_spread_simple fa fd) (bl : Bl mg)  : FG P w K mg base 1 fa fd ["row"] (spD K mg 1 PF.f_spread_simple) :=
  FG.body (k := 0) (N := N_spread_simple) Fn sc_spread_simple fun cdv A outer s H B E hr hg => by
  have sc := sc_spread_simple
  have tk : Takes (cxOf (L2.CX P w) P w K mg base N_spread_simple "spread_simple" (defScope s_spread_simple) fa cdv A outer s H E) (fun c d _ H => E c d H) := takes_of rfl rfl rfl rfl
  have hp : PassesOwn (model P w) (cxOf (L2.CX P w) P w K mg base N_spread_simple "spread_simple" (defScope s_spread_simple) fa cdv A outer s H E).A (cxOf (L2.CX P w) P w K mg base N_spread_simple "spread_simple" (defScope s_spread_simple) fa cdv A outer s H E).env (cxOf (L2.CX P w) P w K mg base N_spread_simple "spread_simple" (defScope s_spread_simple) fa cdv A outer s H E).xe := passes_of rfl
  exact (psdsCons (psdUnp (pdVar (pv 0)) (pgdTup rfl (pgdsCons sc.nd (i := 1) rfl (Or.inl rfl) (pgdsCons sc.nd (i := 2) rfl (Or.inl rfl) (pgdsCons sc.nd (i := 3) rfl (Or.inl rfl) pgdsNil)))))
  (psdsCons (psdSetZ sc.nd (i := 4) rfl (Or.inl rfl) pdInt)
  (psdsCons (psdWhileD (D := []) hp ((pbAnd (pbLt hr (pdVar (pv 4)) (pdB1 crLen bl.b_len rfl (pdVar (pv 3)))) (pbAnd1 (pbEq hr (pdIx (pdVar (pv 3)) (pdVar (pv 4))) (pdVar (pv 1)))))).pb
  (psdsOne (psdAug sc.nd (i := 4) rfl (Or.inl rfl) pdInt iopAdd)))
  (psdsCons (psdSetZ sc.nd (i := 5) rfl (Or.inl rfl) (pdB1 crLen bl.b_len rfl (pdVar (pv 3))))
  (psdsCons (psdWhileD (D := []) hp ((pbAnd (pbGt hr (pdVar (pv 5)) (pdVar (pv 4))) (pbAnd1 (pbEq hr (pdIx (pdVar (pv 3)) (pdSub (pdVar (pv 5)) pdInt)) (pdVar (pv 1)))))).pb
  (psdsOne (psdAug sc.nd (i := 5) rfl (Or.inl rfl) pdInt iopSub)))
  (psdsCons (psdIf (pbEq hr (pdVar (pv 4)) (pdVar (pv 5)))
  (psdsOne (psdRet (pdTup (pdsCons (pdVar (pv 1)) (pdsCons pdInt (pdsCons (pdList pdsNil) pdsNil))))))
  psdsNil)
  (psdsOne (psdRet (pdTup (pdsCons (pdVar (pv 1)) (pdsCons (pdAdd (pdVar (pv 2)) (pdVar (pv 4))) (pdsCons (pdSl (pdVar (pv 3)) (ppS (pdVar (pv 4))) (ppS (pdVar (pv 5)))) pdsNil))))))))))))
theorem ok__law_spread_simple (Fn : Fun K "_law_spread_simple" "_law_spread_simple" s__law_spread_simple fa fd) (bl : Bl mg)  : FG P w K mg base 1 fa fd ["_law_row"] (spD K mg 1 PF.f__law_spread_simple) :=
  FG.body (k := 0) (N := N__law_spread_simple) Fn sc__law_spread_simple fun cdv A outer s H B E hr hg => by
  have sc := sc__law_spread_simple
  have tk : Takes (cxOf (L2.CX P w) P w K mg base N__law_spread_simple "_law_spread_simple" (defScope s__law_spread_simple) fa cdv A outer s H E) (fun c d _ H => E c d H) := takes_of rfl rfl rfl rfl
  have hp : PassesOwn (model P w) (cxOf (L2.CX P w) P w K mg base N__law_spread_simple "_law_spread_simple" (defScope s__law_spread_simple) fa cdv A outer s H E).A (cxOf (L2.CX P w) P w K mg base N__law_spread_simple "_law_spread_simple" (defScope s__law_spread_simple) fa cdv A outer s H E).env (cxOf (L2.CX P w) P w K mg base N__law_spread_simple "_law_spread_simple" (defScope s__law_spread_simple) fa cdv A outer s H E).xe := passes_of rfl
  exact (psdsCons (psdUnp (pdVar (pv 0)) (pgdTup rfl (pgdsCons sc.nd (i := 1) rfl (Or.inl rfl) (pgdsCons sc.nd (i := 2) rfl (Or.inl rfl) (pgdsCons sc.nd (i := 3) rfl (Or.inl rfl) pgdsNil)))))
  (psdsCons (psdSetZ sc.nd (i := 4) rfl (Or.inl rfl) pdInt)
  (psdsCons (psdSetZ sc.nd (i := 5) rfl (Or.inl rfl) (pdB1 crLen bl.b_len rfl (pdVar (pv 3))))
  (psdsCons (psdForD (D := [6]) hp rfl (pidL (pdVar (pv 3))) (pgdName sc.nd (i := 6) rfl (Or.inl rfl))
  (psdsOne (psdIf ((pbAnd (pbLt hr (pdVar (pv 4)) (pdVar (pv 5))) (pbAnd1 (pbEq hr (pdIx (pdVar (pv 3)) (pdVar (pv 4))) (pdVar (pv 1)))))).pb
  (psdsOne (psdSetZ sc.nd (i := 4) rfl (Or.inl rfl) (pdAdd (pdVar (pv 4)) pdInt)))
  psdsNil)))
  (psdsCons (psdForD (D := [6]) hp rfl (pidL (pdVar (pv 3))) (pgdName sc.nd (i := 6) rfl (Or.inl rfl))
  (psdsOne (psdIf ((pbAnd (pbLt hr (pdVar (pv 4)) (pdVar (pv 5))) (pbAnd1 (pbEq hr (pdIx (pdVar (pv 3)) (pdSub (pdVar (pv 5)) pdInt)) (pdVar (pv 1)))))).pb
  (psdsOne (psdSetZ sc.nd (i := 5) rfl (Or.inl rfl) (pdSub (pdVar (pv 5)) pdInt)))
  psdsNil)))
  (psdsCons (psdIf (pbEq hr (pdVar (pv 4)) (pdVar (pv 5)))
  (psdsOne (psdRet (pdTup (pdsCons (pdVar (pv 1)) (pdsCons pdInt (pdsCons (pdList pdsNil) pdsNil))))))
  psdsNil)
  (psdsOne (psdRet (pdTup (pdsCons (pdVar (pv 1)) (pdsCons (pdAdd (pdVar (pv 2)) (pdVar (pv 4))) (pdsCons (pdSl (pdVar (pv 3)) (ppS (pdVar (pv 4))) (ppS (pdVar (pv 5)))) pdsNil))))))))))))
theorem ok_number_of (Fn : Fun K "number_of" "number_of" s_number_of fa fd) (bl : Bl mg)  : FG P w K mg base 1 fa fd ["size", "digits"] (spD K mg 2 PF.f_number_of) :=
  FG.body (k := 0) (N := N_number_of) Fn sc_number_of fun cdv A outer s H B E hr hg => by
  have sc := sc_number_of
  have tk : Takes (cxOf (L2.CX P w) P w K mg base N_number_of "number_of" (defScope s_number_of) fa cdv A outer s H E) (fun c d _ H => E c d H) := takes_of rfl rfl rfl rfl
  have hp : PassesOwn (model P w) (cxOf (L2.CX P w) P w K mg base N_number_of "number_of" (defScope s_number_of) fa cdv A outer s H E).A (cxOf (L2.CX P w) P w K mg base N_number_of "number_of" (defScope s_number_of) fa cdv A outer s H E).env (cxOf (L2.CX P w) P w K mg base N_number_of "number_of" (defScope s_number_of) fa cdv A outer s H E).xe := passes_of rfl
  exact (psdsCons (psdSetZ sc.nd (i := 2) rfl (Or.inl rfl) pdInt)
  (psdsCons (psdForD (D := [3]) hp rfl (pidL (pdVar (pv 1))) (pgdName sc.nd (i := 3) rfl (Or.inl rfl))
  (psdsOne (psdSetZ sc.nd (i := 2) rfl (Or.inl rfl) (pdAdd (pdMul (pdVar (pv 2)) (pdVar (pv 0))) (pdVar (pv 3))))))
  (psdsOne (psdRet (pdVar (pv 2))))))
theorem ok_new_cell (Fn : Fun K "new_cell" "new_cell" s_new_cell fa fd) (bl : Bl mg) (h_number_of : Has P w K mg base 1 "number_of" ["size", "digits"] PF.f_number_of) : FG P w K mg base 2 fa fd ["one", "window"] (spD K mg 2 PF.f_new_cell) :=
  FG.body (k := 1) (N := N_new_cell) Fn sc_new_cell fun cdv A outer s H B E hr hg => by
  have sc := sc_new_cell
  have tk : Takes (cxOf (L2.CX P w) P w K mg base N_new_cell "new_cell" (defScope s_new_cell) fa cdv A outer s H E) (fun c d _ H => E c d H) := takes_of rfl rfl rfl rfl
  have hp : PassesOwn (model P w) (cxOf (L2.CX P w) P w K mg base N_new_cell "new_cell" (defScope s_new_cell) fa cdv A outer s H E).A (cxOf (L2.CX P w) P w K mg base N_new_cell "new_cell" (defScope s_new_cell) fa cdv A outer s H E).env (cxOf (L2.CX P w) P w K mg base N_new_cell "new_cell" (defScope s_new_cell) fa cdv A outer s H E).xe := passes_of rfl
  exact (psdsOne (psdRet (pdIx (pdIx (pdVar (pv 0)) pdInt) (pdCallH h_number_of hr hg tk (pdsCons (pdIx (pdVar (pv 0)) pdInt) (pdsCons (pdVar (pv 1)) pdsNil))))))
theorem ok_apply_word (Fn : Fun K "apply_word" "apply_word" s_apply_word fa fd) (bl : Bl mg) (h_new_cell : Has P w K mg base 2 "new_cell" ["one", "window"] PF.f_new_cell) : FG P w K mg base 3 fa fd ["one", "word"] (spD K mg 2 PF.f_apply_word) :=
  FG.body (k := 2) (N := N_apply_word) Fn sc_apply_word fun cdv A outer s H B E hr hg => by
  have sc := sc_apply_word
  have tk : Takes (cxOf (L2.CX P w) P w K mg base N_apply_word "apply_word" (defScope s_apply_word) fa cdv A outer s H E) (fun c d _ H => E c d H) := takes_of rfl rfl rfl rfl
  have hp : PassesOwn (model P w) (cxOf (L2.CX P w) P w K mg base N_apply_word "apply_word" (defScope s_apply_word) fa cdv A outer s H E).A (cxOf (L2.CX P w) P w K mg base N_apply_word "apply_word" (defScope s_apply_word) fa cdv A outer s H E).env (cxOf (L2.CX P w) P w K mg base N_apply_word "apply_word" (defScope s_apply_word) fa cdv A outer s H E).xe := passes_of rfl
  exact (psdsCons (psdSetZ sc.nd (i := 2) rfl (Or.inr rfl) (pdIx (pdVar (pv 0)) pdInt))
  (psdsOne (psdRet (pdLc (own := [("at", 3)]) rfl sc.nd (pidR1 bl.b_range (pdsCons (pdAdd (pdSub (pdB1 crLen bl.b_len rfl (pdVar (pv 1))) (pdVar (pv 2))) pdInt) pdsNil)) (blkOk_by (own := [("at", 3)]) (by kernel_rfl)) tg_name (keeps_name (by decide)) (fun _ _ _ _ _ => (pg_name (i := 3) sc.nd rfl (by first | exact Or.inl rfl | exact Or.inr rfl))) (fun _ _ _ _ _ => pbsNil) (fun _ _ _ _ _ => (pdCallH h_new_cell hr hg takes0 (pdsCons (pdVar (pv 0)) (pdsCons (pdSl (pdVar (pv 1)) (ppS (pdVar (pv 3))) (ppS (pdAdd (pdVar (pv 3)) (pdVar (pv 2))))) pdsNil))))))))
theorem ok_spread_image (Fn : Fun K "spread_image" "spread_image" s_spread_image fa fd) (bl : Bl mg) (h_apply_word : Has P w K mg base 3 "apply_word" ["one", "word"] PF.f_apply_word) (h_spread_simple : Has P w K mg base 1 "spread_simple" ["row"] PF.f_spread_simple) (h_new_cell : Has P w K mg base 2 "new_cell" ["one", "window"] PF.f_new_cell) : FG P w K mg base 4 fa fd ["one", "row"] (spD K mg 2 PF.f_spread_image) :=
  FG.body (k := 3) (N := N_spread_image) Fn sc_spread_image fun cdv A outer s H B E hr hg => by
  have sc := sc_spread_image
  have tk : Takes (cxOf (L2.CX P w) P w K mg base N_spread_image "spread_image" (defScope s_spread_image) fa cdv A outer s H E) (fun c d _ H => E c d H) := takes_of rfl rfl rfl rfl
  have hp : PassesOwn (model P w) (cxOf (L2.CX P w) P w K mg base N_spread_image "spread_image" (defScope s_spread_image) fa cdv A outer s H E).A (cxOf (L2.CX P w) P w K mg base N_spread_image "spread_image" (defScope s_spread_image) fa cdv A outer s H E).env (cxOf (L2.CX P w) P w K mg base N_spread_image "spread_image" (defScope s_spread_image) fa cdv A outer s H E).xe := passes_of rfl
  exact (psdsCons (psdUnp (pdVar (pv 0)) (pgdTup rfl (pgdsCons sc.nd (i := 2) rfl (Or.inl rfl) (pgdsCons sc.nd (i := 3) rfl (Or.inl rfl) (pgdsCons sc.nd (i := 4) rfl (Or.inl rfl) (pgdsCons sc.nd (i := 2) rfl (Or.inl rfl) pgdsNil))))))
  (psdsCons (psdUnp (pdVar (pv 1)) (pgdTup rfl (pgdsCons sc.nd (i := 5) rfl (Or.inl rfl) (pgdsCons sc.nd (i := 6) rfl (Or.inl rfl) (pgdsCons sc.nd (i := 7) rfl (Or.inl rfl) pgdsNil)))))
  (psdsCons (psdSetZ sc.nd (i := 8) rfl (Or.inl rfl) (pdMul (pdList (pdsCons (pdVar (pv 5)) pdsNil)) (pdSub (pdVar (pv 4)) pdInt)))
  (psdsCons (psdSetZ sc.nd (i := 9) rfl (Or.inl rfl) (pdCallH h_apply_word hr hg tk (pdsCons (pdVar (pv 0)) (pdsCons (pdAdd (pdAdd (pdVar (pv 8)) (pdVar (pv 7))) (pdVar (pv 8))) pdsNil))))
  (psdsOne (psdRet (pdCallH h_spread_simple hr hg tk (pdsCons (pdTup (pdsCons (pdCallH h_new_cell hr hg tk (pdsCons (pdVar (pv 0)) (pdsCons (pdMul (pdList (pdsCons (pdVar (pv 5)) pdsNil)) (pdVar (pv 4))) pdsNil))) (pdsCons (pdSub (pdAdd (pdSub (pdVar (pv 6)) (pdVar (pv 4))) pdInt) (pdVar (pv 3))) (pdsCons (pdVar (pv 9)) pdsNil)))) pdsNil))))))))
theorem ok__law_spread_cell (Fn : Fun K "_law_spread_cell" "_law_spread_cell" s__law_spread_cell fa fd) (bl : Bl mg)  : FG P w K mg base 1 fa fd ["_law_row", "_law_place"] (spD K mg 2 PF.f__law_spread_cell) :=
  FG.body (k := 0) (N := N__law_spread_cell) Fn sc__law_spread_cell fun cdv A outer s H B E hr hg => by
  have sc := sc__law_spread_cell
  have tk : Takes (cxOf (L2.CX P w) P w K mg base N__law_spread_cell "_law_spread_cell" (defScope s__law_spread_cell) fa cdv A outer s H E) (fun c d _ H => E c d H) := takes_of rfl rfl rfl rfl
  have hp : PassesOwn (model P w) (cxOf (L2.CX P w) P w K mg base N__law_spread_cell "_law_spread_cell" (defScope s__law_spread_cell) fa cdv A outer s H E).A (cxOf (L2.CX P w) P w K mg base N__law_spread_cell "_law_spread_cell" (defScope s__law_spread_cell) fa cdv A outer s H E).env (cxOf (L2.CX P w) P w K mg base N__law_spread_cell "_law_spread_cell" (defScope s__law_spread_cell) fa cdv A outer s H E).xe := passes_of rfl
  exact (psdsCons (psdUnp (pdVar (pv 0)) (pgdTup rfl (pgdsCons sc.nd (i := 2) rfl (Or.inl rfl) (pgdsCons sc.nd (i := 3) rfl (Or.inl rfl) (pgdsCons sc.nd (i := 4) rfl (Or.inl rfl) pgdsNil)))))
  (psdsCons (psdIf (pbChain (dopLe hr).op (dopLt hr).op (pdVar (pv 3)) (pdVar (pv 1)) (pdAdd (pdVar (pv 3)) (pdB1 crLen bl.b_len rfl (pdVar (pv 4)))))
  (psdsOne (psdRet (pdIx (pdVar (pv 4)) (pdSub (pdVar (pv 1)) (pdVar (pv 3))))))
  psdsNil)
  (psdsOne (psdRet (pdVar (pv 2))))))
theorem ok__law_spread_image (Fn : Fun K "_law_spread_image" "_law_spread_image" s__law_spread_image fa fd) (bl : Bl mg) (h__law_index : Has P w K mg base 1 "_law_index" ["_law_cells", "_law_size"] PF.f__law_index) (h__law_spread_cell : Has P w K mg base 1 "_law_spread_cell" ["_law_row", "_law_place"] PF.f__law_spread_cell) (h__law_spread_simple : Has P w K mg base 1 "_law_spread_simple" ["_law_row"] PF.f__law_spread_simple) : FG P w K mg base 2 fa fd ["_law_one", "_law_row"] (spD K mg 2 PF.f__law_spread_image) :=
  FG.body (k := 1) (N := N__law_spread_image) Fn sc__law_spread_image fun cdv A outer s H B E hr hg => by
  have sc := sc__law_spread_image
  have tk : Takes (cxOf (L2.CX P w) P w K mg base N__law_spread_image "_law_spread_image" (defScope s__law_spread_image) fa cdv A outer s H E) (fun c d _ H => E c d H) := takes_of rfl rfl rfl rfl
  have hp : PassesOwn (model P w) (cxOf (L2.CX P w) P w K mg base N__law_spread_image "_law_spread_image" (defScope s__law_spread_image) fa cdv A outer s H E).A (cxOf (L2.CX P w) P w K mg base N__law_spread_image "_law_spread_image" (defScope s__law_spread_image) fa cdv A outer s H E).env (cxOf (L2.CX P w) P w K mg base N__law_spread_image "_law_spread_image" (defScope s__law_spread_image) fa cdv A outer s H E).xe := passes_of rfl
  exact (psdsCons (psdUnp (pdVar (pv 0)) (pgdTup rfl (pgdsCons sc.nd (i := 2) rfl (Or.inl rfl) (pgdsCons sc.nd (i := 3) rfl (Or.inr rfl) (pgdsCons sc.nd (i := 4) rfl (Or.inl rfl) (pgdsCons sc.nd (i := 5) rfl (Or.inl rfl) pgdsNil))))))
  (psdsCons (psdUnp (pdVar (pv 1)) (pgdTup rfl (pgdsCons sc.nd (i := 6) rfl (Or.inl rfl) (pgdsCons sc.nd (i := 7) rfl (Or.inl rfl) (pgdsCons sc.nd (i := 8) rfl (Or.inl rfl) pgdsNil)))))
  (psdsCons (psdSetZ sc.nd (i := 9) rfl (Or.inl rfl) (pdAdd (pdSub (pdSub (pdVar (pv 7)) (pdVar (pv 3))) (pdVar (pv 4))) pdInt))
  (psdsCons (psdSet sc.nd (i := 10) rfl (Or.inl rfl) (pdList pdsNil))
  (psdsCons (psdForD (D := [11]) hp rfl (pidR2 bl.b_range (pdsCons (pdVar (pv 9)) (pdsCons (pdSub (pdAdd (pdVar (pv 7)) (pdB1 crLen bl.b_len rfl (pdVar (pv 8)))) (pdVar (pv 3))) pdsNil))) (pgdName sc.nd (i := 11) rfl (Or.inr rfl))
  (psdsOne (psdApp (pv 10) (pdIx (pdVar (pv 5)) (pdCallH h__law_index hr hg tk (pdsCons (pdLc (own := [("_law_j", 12)]) rfl sc.nd (pidR1 bl.b_range (pdsCons (pdVar (pv 4)) pdsNil)) (blkOk_by (own := [("_law_j", 12)]) (by kernel_rfl)) tg_name (keeps_name (by decide)) (fun _ _ _ _ _ => (pg_name (i := 12) sc.nd rfl (by first | exact Or.inl rfl | exact Or.inr rfl))) (fun _ _ _ _ _ => pbsNil) (fun _ _ _ _ _ => (pdCallH h__law_spread_cell hr hg takes0 (pdsCons (pdVar (pv 1)) (pdsCons (pdAdd (pdAdd (pdVar (pv 11)) (pdVar (pv 3))) (pdVar (pv 12))) pdsNil))))) (pdsCons (pdVar (pv 2)) pdsNil)))))))
  (psdsFr (i := 10) (psdsOne (psdRet (pdCallH h__law_spread_simple hr hg tk (pdsCons (pdTup (pdsCons (pdIx (pdVar (pv 5)) (pdCallH h__law_index hr hg tk (pdsCons (pdMul (pdList (pdsCons (pdVar (pv 6)) pdsNil)) (pdVar (pv 4))) (pdsCons (pdVar (pv 2)) pdsNil)))) (pdsCons (pdVar (pv 9)) (pdsCons (pdVar (pv 10)) pdsNil)))) pdsNil))))))))))
theorem ok_spread_cell (Fn : Fun K "spread_cell" "spread_cell" s_spread_cell fa fd) (bl : Bl mg)  : FG P w K mg base 1 fa fd ["row", "place"] (spD K mg 2 PF.f_spread_cell) :=
  FG.body (k := 0) (N := N_spread_cell) Fn sc_spread_cell fun cdv A outer s H B E hr hg => by
  have sc := sc_spread_cell
  have tk : Takes (cxOf (L2.CX P w) P w K mg base N_spread_cell "spread_cell" (defScope s_spread_cell) fa cdv A outer s H E) (fun c d _ H => E c d H) := takes_of rfl rfl rfl rfl
  have hp : PassesOwn (model P w) (cxOf (L2.CX P w) P w K mg base N_spread_cell "spread_cell" (defScope s_spread_cell) fa cdv A outer s H E).A (cxOf (L2.CX P w) P w K mg base N_spread_cell "spread_cell" (defScope s_spread_cell) fa cdv A outer s H E).env (cxOf (L2.CX P w) P w K mg base N_spread_cell "spread_cell" (defScope s_spread_cell) fa cdv A outer s H E).xe := passes_of rfl
  exact (psdsCons (psdUnp (pdVar (pv 0)) (pgdTup rfl (pgdsCons sc.nd (i := 2) rfl (Or.inl rfl) (pgdsCons sc.nd (i := 3) rfl (Or.inl rfl) (pgdsCons sc.nd (i := 4) rfl (Or.inl rfl) pgdsNil)))))
  (psdsCons (psdIf (pbChain (dopLe hr).op (dopLt hr).op (pdVar (pv 3)) (pdVar (pv 1)) (pdAdd (pdVar (pv 3)) (pdB1 crLen bl.b_len rfl (pdVar (pv 4)))))
  (psdsOne (psdRet (pdIx (pdVar (pv 4)) (pdSub (pdVar (pv 1)) (pdVar (pv 3))))))
  psdsNil)
  (psdsOne (psdRet (pdVar (pv 2))))))
theorem ok_law (Fn : Fun K "law" "law" s_law fa fd) (bl : Bl mg) (h__law_map : Has P w K mg base 3 "_law_map" ["_law_cell_here", "_law_more", "_law_most"] PF.f__law_map) (h__law_cell : Has P w K mg base 1 "_law_cell" ["_law_script", "_law_k"] PF.f__law_cell) (h__law_spread : Has P w K mg base 2 "_law_spread" ["_law_cell_here", "_law_size"] PF.f__law_spread) (h_spread_simple : Has P w K mg base 1 "spread_simple" ["row"] PF.f_spread_simple) (h__law_spread_simple : Has P w K mg base 1 "_law_spread_simple" ["_law_row"] PF.f__law_spread_simple) (h_spread_image : Has P w K mg base 4 "spread_image" ["one", "row"] PF.f_spread_image) (h__law_spread_image : Has P w K mg base 2 "_law_spread_image" ["_law_one", "_law_row"] PF.f__law_spread_image) (h_spread_cell : Has P w K mg base 1 "spread_cell" ["row", "place"] PF.f_spread_cell) (h__law_spread_cell : Has P w K mg base 1 "_law_spread_cell" ["_law_row", "_law_place"] PF.f__law_spread_cell) (h__law_index : Has P w K mg base 1 "_law_index" ["_law_cells", "_law_size"] PF.f__law_index) : FG P w K mg base 5 fa fd ["_law_script"] (spD K mg 1 PF.f_law_k08) :=
  FG.body (k := 4) (N := N_law) Fn sc_law fun cdv A outer s H B E hr hg => by
  have sc := sc_law
  have tk : Takes (cxOf (L2.CX P w) P w K mg base N_law "law" (defScope s_law) fa cdv A outer s H E) (fun c d _ H => E c d H) := takes_of rfl rfl rfl rfl
  have hp : PassesOwn (model P w) (cxOf (L2.CX P w) P w K mg base N_law "law" (defScope s_law) fa cdv A outer s H E).A (cxOf (L2.CX P w) P w K mg base N_law "law" (defScope s_law) fa cdv A outer s H E).env (cxOf (L2.CX P w) P w K mg base N_law "law" (defScope s_law) fa cdv A outer s H E).xe := passes_of rfl
  exact (psdsCons (psdForD (D := [1, 2, 3, 4, 5, 6, 7, 8, 9, 10, 12]) hp rfl (pidR3 bl.b_range (pdsCons pdInt (pdsCons (pdAdd (pdB1 crLen bl.b_len rfl (pdVar (pv 0))) pdInt) (pdsCons pdInt pdsNil)))) (pgdName sc.nd (i := 1) rfl (Or.inl rfl))
  (psdsCons (psdSetZ sc.nd (i := 2) rfl (Or.inr rfl) (pdCallH h__law_map hr hg tk (pdsCons (pdCallH h__law_cell hr hg tk (pdsCons (pdVar (pv 0)) (pdsCons (pdVar (pv 1)) pdsNil))) (pdsCons (pdCallH h__law_cell hr hg tk (pdsCons (pdVar (pv 0)) (pdsCons (pdAdd (pdVar (pv 1)) pdInt) pdsNil))) (pdsCons pdInt pdsNil)))))
  (psdsCons (psdSetZ sc.nd (i := 3) rfl (Or.inr rfl) (pdCallH h__law_spread hr hg tk (pdsCons (pdCallH h__law_cell hr hg tk (pdsCons (pdVar (pv 0)) (pdsCons (pdAdd (pdVar (pv 1)) pdInt) pdsNil))) (pdsCons (pdIx (pdVar (pv 2)) pdInt) pdsNil))))
  (psdsCons (psdSetZ sc.nd (i := 4) rfl (Or.inl rfl) (pdB1 (d1Repr hr hg).call bl.b_repr rfl (pdList (pdsCons (pdVar (pv 2)) (pdsCons (pdVar (pv 3)) pdsNil)))))
  (psdsCons (psdSet sc.nd (i := 5) rfl (Or.inl rfl) (pdCallH h_spread_simple hr hg tk (pdsCons (pdVar (pv 3)) pdsNil)))
  (psdsCons (psdSetZ sc.nd (i := 6) rfl (Or.inl rfl) (pdCallH h__law_spread_simple hr hg tk (pdsCons (pdVar (pv 3)) pdsNil)))
  (psdsCons (psdIf ((pbOr (pbNot (pbTruth (pdIsa isaTuple (pdVar (pv 5)) bl.b_isinstance bl.b_tuple rfl))) (pbOr (pbNe hr (pdVar (pv 5)) (pdVar (pv 6))) (pbOr (pbNe hr (pdB1 (d1Repr hr hg).call bl.b_repr rfl (pdVar (pv 5))) (pdB1 (d1Repr hr hg).call bl.b_repr rfl (pdVar (pv 6)))) (pbOr1 (pbNe hr (pdCallH h_spread_simple hr hg tk (pdsCons (pdVar (pv 5)) pdsNil)) (pdVar (pv 6)))))))).pb
  (psdsOne (psdRet pdBl))
  psdsNil)
  (psdsCons (psdSet sc.nd (i := 7) rfl (Or.inl rfl) (pdCallH h_spread_image hr hg tk (pdsCons (pdVar (pv 2)) (pdsCons (pdVar (pv 3)) pdsNil))))
  (psdsCons (psdSetZ sc.nd (i := 8) rfl (Or.inl rfl) (pdCallH h__law_spread_image hr hg tk (pdsCons (pdVar (pv 2)) (pdsCons (pdVar (pv 3)) pdsNil))))
  (psdsCons (psdIf ((pbOr (pbNot (pbTruth (pdIsa isaTuple (pdVar (pv 7)) bl.b_isinstance bl.b_tuple rfl))) (pbOr (pbNe hr (pdVar (pv 7)) (pdVar (pv 8))) (pbOr (pbNe hr (pdB1 (d1Repr hr hg).call bl.b_repr rfl (pdVar (pv 7))) (pdB1 (d1Repr hr hg).call bl.b_repr rfl (pdVar (pv 8)))) (pbOr1 (pbNe hr (pdCallH h_spread_image hr hg tk (pdsCons (pdVar (pv 2)) (pdsCons (pdVar (pv 5)) pdsNil))) (pdVar (pv 8)))))))).pb
  (psdsOne (psdRet pdBl))
  psdsNil)
  (psdsCons (psdSetZ sc.nd (i := 9) rfl (Or.inr rfl) (pdIx (pdVar (pv 3)) pdInt))
  (psdsCons (psdForD (D := [10, 12]) hp rfl (pidL (pdAdd (pdAdd (pdLc (own := [("_law_j", 11)]) rfl sc.nd (pidR2 bl.b_range (pdsCons (pdNeg pdInt) (pdsCons pdInt pdsNil))) (blkOk_by (own := [("_law_j", 11)]) (by kernel_rfl)) tg_name (keeps_name (by decide)) (fun _ _ _ _ _ => (pg_name (i := 11) sc.nd rfl (by first | exact Or.inl rfl | exact Or.inr rfl))) (fun _ _ _ _ _ => pbsNil) (fun _ _ _ _ _ => (pdAdd (pdVar (pv 9)) (pdVar (pv 11))))) (pdLc (own := [("_law_j", 11)]) rfl sc.nd (pidR2 bl.b_range (pdsCons (pdNeg pdInt) (pdsCons pdInt pdsNil))) (blkOk_by (own := [("_law_j", 11)]) (by kernel_rfl)) tg_name (keeps_name (by decide)) (fun _ _ _ _ _ => (pg_name (i := 11) sc.nd rfl (by first | exact Or.inl rfl | exact Or.inr rfl))) (fun _ _ _ _ _ => pbsNil) (fun _ _ _ _ _ => (pdAdd (pdSub (pdVar (pv 9)) (pdIx (pdVar (pv 2)) pdInt)) (pdVar (pv 11)))))) (pdList (pdsCons pdInt (pdsCons (pdPow pdInt pdInt) (pdsCons (pdNeg (pdPow pdInt pdInt)) pdsNil)))))) (pgdName sc.nd (i := 10) rfl (Or.inr rfl))
  (psdsCons (psdIf ((pbOr (pbNe hr (pdCallH h_spread_cell hr hg tk (pdsCons (pdVar (pv 3)) (pdsCons (pdVar (pv 10)) pdsNil))) (pdCallH h__law_spread_cell hr hg tk (pdsCons (pdVar (pv 3)) (pdsCons (pdVar (pv 10)) pdsNil)))) (pbOr1 (pbNe hr (pdCallH h_spread_cell hr hg tk (pdsCons (pdVar (pv 5)) (pdsCons (pdVar (pv 10)) pdsNil))) (pdCallH h__law_spread_cell hr hg tk (pdsCons (pdVar (pv 3)) (pdsCons (pdVar (pv 10)) pdsNil))))))).pb
  (psdsOne (psdRet pdBl))
  psdsNil)
  (psdsCons (psdSetZLc (i := 12) (own := [("_law_j", 11)]) rfl sc.nd rfl rfl (sw_true rfl rfl rfl (by decide +kernel)) (pidR1 bl.b_range (pdsCons (pdIx (pdVar (pv 2)) pdInt) pdsNil)) (blkOk_by (own := [("_law_j", 11)]) (by kernel_rfl)) tg_name (keeps_name (by decide)) (fun _ _ _ _ _ => (pg_name (i := 11) sc.nd rfl (by first | exact Or.inl rfl | exact Or.inr rfl))) (fun _ _ _ _ _ => pbsNil) (fun _ _ _ _ _ => (pdCallH h__law_spread_cell hr hg takes0 (pdsCons (pdVar (pv 3)) (pdsCons (pdAdd (pdAdd (pdVar (pv 10)) (pdIx (pdVar (pv 2)) pdInt)) (pdVar (pv 11))) pdsNil)))))
  (psdsOne (psdIf (pbNe hr (pdCallH h_spread_cell hr hg tk (pdsCons (pdVar (pv 7)) (pdsCons (pdVar (pv 10)) pdsNil))) (pdIx (pdIx (pdVar (pv 2)) pdInt) (pdCallH h__law_index hr hg tk (pdsCons (pdVar (pv 12)) (pdsCons (pdIx (pdVar (pv 2)) pdInt) pdsNil)))))
  (psdsOne (psdRet pdBl))
  psdsNil)))))
  (psdsCons (psdAppAt (pv 7) pdInt)
  (psdsCons (psdAppAt (pv 5) pdInt)
  (psdsOne (psdIf ((pbOr (pbNe hr (pdB1 (d1Repr hr hg).call bl.b_repr rfl (pdList (pdsCons (pdVar (pv 2)) (pdsCons (pdVar (pv 3)) pdsNil)))) (pdVar (pv 4))) (pbOr (pbNe hr (pdCallH h_spread_image hr hg tk (pdsCons (pdVar (pv 2)) (pdsCons (pdVar (pv 3)) pdsNil))) (pdVar (pv 8))) (pbOr1 (pbNe hr (pdCallH h_spread_simple hr hg tk (pdsCons (pdVar (pv 3)) pdsNil)) (pdVar (pv 6))))))).pb
  (psdsOne (psdRet pdBl))
  psdsNil))))))))))))))))
  (psdsOne (psdRet pdBl)))
end
theorem all_mk {l : PySem.W.OpenLaw} {w : World} {K : PySem.W.Frag} {h : Heap} {mg : Str → Option Value} {fa : Addr} (X : K.In h) (G : h.Ns mainGlobals mg) (hfa : mg "law" = some (.ref fa))
    {oc0 kV0 dc0 pm0 cd0 ct0 : Value} {od0 an0 : Option Addr} {sl0 : Array (Option Value)} {f0 : Addr}
    {oc1 kV1 dc1 pm1 cd1 ct1 : Value} {od1 an1 : Option Addr} {sl1 : Array (Option Value)} {f1 : Addr}
    {oc2 kV2 dc2 pm2 cd2 ct2 : Value} {od2 an2 : Option Addr} {sl2 : Array (Option Value)} {f2 : Addr}
    {oc3 kV3 dc3 pm3 cd3 ct3 : Value} {od3 an3 : Option Addr} {sl3 : Array (Option Value)} {f3 : Addr}
    {oc4 kV4 dc4 pm4 cd4 ct4 : Value} {od4 an4 : Option Addr} {sl4 : Array (Option Value)} {f4 : Addr}
    {oc5 kV5 dc5 pm5 cd5 ct5 : Value} {od5 an5 : Option Addr} {sl5 : Array (Option Value)} {f5 : Addr}
    {oc6 kV6 dc6 pm6 cd6 ct6 : Value} {od6 an6 : Option Addr} {sl6 : Array (Option Value)} {f6 : Addr}
    {oc7 kV7 dc7 pm7 cd7 ct7 : Value} {od7 an7 : Option Addr} {sl7 : Array (Option Value)} {f7 : Addr}
    {oc8 kV8 dc8 pm8 cd8 ct8 : Value} {od8 an8 : Option Addr} {sl8 : Array (Option Value)} {f8 : Addr}
    {oc9 kV9 dc9 pm9 cd9 ct9 : Value} {od9 an9 : Option Addr} {sl9 : Array (Option Value)} {f9 : Addr}
    {oc10 kV10 dc10 pm10 cd10 ct10 : Value} {od10 an10 : Option Addr} {sl10 : Array (Option Value)} {f10 : Addr}
    {oc11 kV11 dc11 pm11 cd11 ct11 : Value} {od11 an11 : Option Addr} {sl11 : Array (Option Value)} {f11 : Addr}
    {oc12 kV12 dc12 pm12 cd12 ct12 : Value} {od12 an12 : Option Addr} {sl12 : Array (Option Value)} {f12 : Addr}
    {oc13 kV13 dc13 pm13 cd13 ct13 : Value} {od13 an13 : Option Addr} {sl13 : Array (Option Value)} {f13 : Addr}
    {oc14 kV14 dc14 pm14 cd14 ct14 : Value} {od14 an14 : Option Addr} {sl14 : Array (Option Value)} {f14 : Addr}
    {oc15 kV15 dc15 pm15 cd15 ct15 : Value} {od15 an15 : Option Addr} {sl15 : Array (Option Value)} {f15 : Addr}
    {oc16 kV16 dc16 pm16 cd16 ct16 : Value} {od16 an16 : Option Addr} {sl16 : Array (Option Value)} {f16 : Addr}
    {oc17 kV17 dc17 pm17 cd17 ct17 : Value} {od17 an17 : Option Addr} {sl17 : Array (Option Value)} {f17 : Addr}
    (a0 : PySem.W.nsIn K mainGlobals "_law_draws" = some (some (.ref f0))) (l0 : K.lookup f0 = some ⟨oc0, od0, .func (PySem.W.fnOf "_law_draws" "_law_draws" (defArgs s__law_draws) (defBody s__law_draws) (defScope s__law_draws) .none kV0 dc0 pm0 an0 cd0 ct0), sl0⟩) (c0 : PySem.W.codeIn K cd0 "_law_draws" = true) (k0 : PySem.W.keepIn K (.ref f0) = true)
    (a1 : PySem.W.nsIn K mainGlobals "_law_power" = some (some (.ref f1))) (l1 : K.lookup f1 = some ⟨oc1, od1, .func (PySem.W.fnOf "_law_power" "_law_power" (defArgs s__law_power) (defBody s__law_power) (defScope s__law_power) .none kV1 dc1 pm1 an1 cd1 ct1), sl1⟩) (c1 : PySem.W.codeIn K cd1 "_law_power" = true) (k1 : PySem.W.keepIn K (.ref f1) = true)
    (a2 : PySem.W.nsIn K mainGlobals "_law_digits" = some (some (.ref f2))) (l2 : K.lookup f2 = some ⟨oc2, od2, .func (PySem.W.fnOf "_law_digits" "_law_digits" (defArgs s__law_digits) (defBody s__law_digits) (defScope s__law_digits) .none kV2 dc2 pm2 an2 cd2 ct2), sl2⟩) (c2 : PySem.W.codeIn K cd2 "_law_digits" = true) (k2 : PySem.W.keepIn K (.ref f2) = true)
    (a3 : PySem.W.nsIn K mainGlobals "_law_index" = some (some (.ref f3))) (l3 : K.lookup f3 = some ⟨oc3, od3, .func (PySem.W.fnOf "_law_index" "_law_index" (defArgs s__law_index) (defBody s__law_index) (defScope s__law_index) .none kV3 dc3 pm3 an3 cd3 ct3), sl3⟩) (c3 : PySem.W.codeIn K cd3 "_law_index" = true) (k3 : PySem.W.keepIn K (.ref f3) = true)
    (a4 : PySem.W.nsIn K mainGlobals "_law_table" = some (some (.ref f4))) (l4 : K.lookup f4 = some ⟨oc4, od4, .func (PySem.W.fnOf "_law_table" "_law_table" (defArgs s__law_table) (defBody s__law_table) (defScope s__law_table) .none kV4 dc4 pm4 an4 cd4 ct4), sl4⟩) (c4 : PySem.W.codeIn K cd4 "_law_table" = true) (k4 : PySem.W.keepIn K (.ref f4) = true)
    (a5 : PySem.W.nsIn K mainGlobals "_law_map" = some (some (.ref f5))) (l5 : K.lookup f5 = some ⟨oc5, od5, .func (PySem.W.fnOf "_law_map" "_law_map" (defArgs s__law_map) (defBody s__law_map) (defScope s__law_map) .none kV5 dc5 pm5 an5 cd5 ct5), sl5⟩) (c5 : PySem.W.codeIn K cd5 "_law_map" = true) (k5 : PySem.W.keepIn K (.ref f5) = true)
    (a6 : PySem.W.nsIn K mainGlobals "_law_cell" = some (some (.ref f6))) (l6 : K.lookup f6 = some ⟨oc6, od6, .func (PySem.W.fnOf "_law_cell" "_law_cell" (defArgs s__law_cell) (defBody s__law_cell) (defScope s__law_cell) .none kV6 dc6 pm6 an6 cd6 ct6), sl6⟩) (c6 : PySem.W.codeIn K cd6 "_law_cell" = true) (k6 : PySem.W.keepIn K (.ref f6) = true)
    (a7 : PySem.W.nsIn K mainGlobals "_law_spread" = some (some (.ref f7))) (l7 : K.lookup f7 = some ⟨oc7, od7, .func (PySem.W.fnOf "_law_spread" "_law_spread" (defArgs s__law_spread) (defBody s__law_spread) (defScope s__law_spread) .none kV7 dc7 pm7 an7 cd7 ct7), sl7⟩) (c7 : PySem.W.codeIn K cd7 "_law_spread" = true) (k7 : PySem.W.keepIn K (.ref f7) = true)
    (a8 : PySem.W.nsIn K mainGlobals "spread_simple" = some (some (.ref f8))) (l8 : K.lookup f8 = some ⟨oc8, od8, .func (PySem.W.fnOf "spread_simple" "spread_simple" (defArgs s_spread_simple) (defBody s_spread_simple) (defScope s_spread_simple) .none kV8 dc8 pm8 an8 cd8 ct8), sl8⟩) (c8 : PySem.W.codeIn K cd8 "spread_simple" = true) (k8 : PySem.W.keepIn K (.ref f8) = true)
    (a9 : PySem.W.nsIn K mainGlobals "_law_spread_simple" = some (some (.ref f9))) (l9 : K.lookup f9 = some ⟨oc9, od9, .func (PySem.W.fnOf "_law_spread_simple" "_law_spread_simple" (defArgs s__law_spread_simple) (defBody s__law_spread_simple) (defScope s__law_spread_simple) .none kV9 dc9 pm9 an9 cd9 ct9), sl9⟩) (c9 : PySem.W.codeIn K cd9 "_law_spread_simple" = true) (k9 : PySem.W.keepIn K (.ref f9) = true)
    (a10 : PySem.W.nsIn K mainGlobals "number_of" = some (some (.ref f10))) (l10 : K.lookup f10 = some ⟨oc10, od10, .func (PySem.W.fnOf "number_of" "number_of" (defArgs s_number_of) (defBody s_number_of) (defScope s_number_of) .none kV10 dc10 pm10 an10 cd10 ct10), sl10⟩) (c10 : PySem.W.codeIn K cd10 "number_of" = true) (k10 : PySem.W.keepIn K (.ref f10) = true)
    (a11 : PySem.W.nsIn K mainGlobals "new_cell" = some (some (.ref f11))) (l11 : K.lookup f11 = some ⟨oc11, od11, .func (PySem.W.fnOf "new_cell" "new_cell" (defArgs s_new_cell) (defBody s_new_cell) (defScope s_new_cell) .none kV11 dc11 pm11 an11 cd11 ct11), sl11⟩) (c11 : PySem.W.codeIn K cd11 "new_cell" = true) (k11 : PySem.W.keepIn K (.ref f11) = true)
    (a12 : PySem.W.nsIn K mainGlobals "apply_word" = some (some (.ref f12))) (l12 : K.lookup f12 = some ⟨oc12, od12, .func (PySem.W.fnOf "apply_word" "apply_word" (defArgs s_apply_word) (defBody s_apply_word) (defScope s_apply_word) .none kV12 dc12 pm12 an12 cd12 ct12), sl12⟩) (c12 : PySem.W.codeIn K cd12 "apply_word" = true) (k12 : PySem.W.keepIn K (.ref f12) = true)
    (a13 : PySem.W.nsIn K mainGlobals "spread_image" = some (some (.ref f13))) (l13 : K.lookup f13 = some ⟨oc13, od13, .func (PySem.W.fnOf "spread_image" "spread_image" (defArgs s_spread_image) (defBody s_spread_image) (defScope s_spread_image) .none kV13 dc13 pm13 an13 cd13 ct13), sl13⟩) (c13 : PySem.W.codeIn K cd13 "spread_image" = true) (k13 : PySem.W.keepIn K (.ref f13) = true)
    (a14 : PySem.W.nsIn K mainGlobals "_law_spread_cell" = some (some (.ref f14))) (l14 : K.lookup f14 = some ⟨oc14, od14, .func (PySem.W.fnOf "_law_spread_cell" "_law_spread_cell" (defArgs s__law_spread_cell) (defBody s__law_spread_cell) (defScope s__law_spread_cell) .none kV14 dc14 pm14 an14 cd14 ct14), sl14⟩) (c14 : PySem.W.codeIn K cd14 "_law_spread_cell" = true) (k14 : PySem.W.keepIn K (.ref f14) = true)
    (a15 : PySem.W.nsIn K mainGlobals "_law_spread_image" = some (some (.ref f15))) (l15 : K.lookup f15 = some ⟨oc15, od15, .func (PySem.W.fnOf "_law_spread_image" "_law_spread_image" (defArgs s__law_spread_image) (defBody s__law_spread_image) (defScope s__law_spread_image) .none kV15 dc15 pm15 an15 cd15 ct15), sl15⟩) (c15 : PySem.W.codeIn K cd15 "_law_spread_image" = true) (k15 : PySem.W.keepIn K (.ref f15) = true)
    (a16 : PySem.W.nsIn K mainGlobals "spread_cell" = some (some (.ref f16))) (l16 : K.lookup f16 = some ⟨oc16, od16, .func (PySem.W.fnOf "spread_cell" "spread_cell" (defArgs s_spread_cell) (defBody s_spread_cell) (defScope s_spread_cell) .none kV16 dc16 pm16 an16 cd16 ct16), sl16⟩) (c16 : PySem.W.codeIn K cd16 "spread_cell" = true) (k16 : PySem.W.keepIn K (.ref f16) = true)
    (a17 : PySem.W.nsIn K mainGlobals "law" = some (some (.ref f17))) (l17 : K.lookup f17 = some ⟨oc17, od17, .func (PySem.W.fnOf "law" "law" (defArgs s_law) (defBody s_law) (defScope s_law) .none kV17 dc17 pm17 an17 cd17 ct17), sl17⟩) (c17 : PySem.W.codeIn K cd17 "law" = true) (k17 : PySem.W.keepIn K (.ref f17) = true)
    (z_len : PySem.W.nsIn K mainGlobals "len" = some none)
    (z_range : PySem.W.nsIn K mainGlobals "range" = some none)
    (z_repr : PySem.W.nsIn K mainGlobals "repr" = some none)
    (z_isinstance : PySem.W.nsIn K mainGlobals "isinstance" = some none)
    (z_tuple : PySem.W.nsIn K mainGlobals "tuple" = some none)
    (z_int : PySem.W.nsIn K mainGlobals "int" = some none)
    (z_abs : PySem.W.nsIn K mainGlobals "abs" = some none)
    (z_sum : PySem.W.nsIn K mainGlobals "sum" = some none)
    (z_min : PySem.W.nsIn K mainGlobals "min" = some none)
    (z_max : PySem.W.nsIn K mainGlobals "max" = some none)
    : ∃ fd : FuncData, (∀ (s : Shared) (u : Value), BindsTo s fd ⟨[u], []⟩ [("_law_script", u)]) ∧ ∀ base : Heap, K.In base → base.Ns mainGlobals mg → FG l.prog w K mg base 5 fa fd ["_law_script"] (spD K mg 1 PF.f_law_k08) := by
  have e := hfa.symm.trans (PySem.W.mg_of X G a17)
  cases e
  have bl : Bl mg := ⟨PySem.W.mg_none_of X G z_len, PySem.W.mg_none_of X G z_range, PySem.W.mg_none_of X G z_repr, PySem.W.mg_none_of X G z_isinstance, PySem.W.mg_none_of X G z_tuple, PySem.W.mg_none_of X G z_int, PySem.W.mg_none_of X G z_abs, PySem.W.mg_none_of X G z_sum, PySem.W.mg_none_of X G z_min, PySem.W.mg_none_of X G z_max⟩
  have F0 := fun_mk (st := s__law_draws) l0 c0 k0
  have b0 := F0.binds (ps := ["_law_cell_here", "_law_limits"]) fun _ _ _ _ _ _ us hl => match us, hl with | [_, _], _ => rfl
  have F1 := fun_mk (st := s__law_power) l1 c1 k1
  have b1 := F1.binds (ps := ["_law_size", "_law_exponent"]) fun _ _ _ _ _ _ us hl => match us, hl with | [_, _], _ => rfl
  have F2 := fun_mk (st := s__law_digits) l2 c2 k2
  have b2 := F2.binds (ps := ["_law_index_here", "_law_size", "_law_width"]) fun _ _ _ _ _ _ us hl => match us, hl with | [_, _, _], _ => rfl
  have F3 := fun_mk (st := s__law_index) l3 c3 k3
  have b3 := F3.binds (ps := ["_law_cells", "_law_size"]) fun _ _ _ _ _ _ us hl => match us, hl with | [_, _], _ => rfl
  have F4 := fun_mk (st := s__law_table) l4 c4 k4
  have b4 := F4.binds (ps := ["_law_cell_here", "_law_size", "_law_width"]) fun _ _ _ _ _ _ us hl => match us, hl with | [_, _, _], _ => rfl
  have F5 := fun_mk (st := s__law_map) l5 c5 k5
  have b5 := F5.binds (ps := ["_law_cell_here", "_law_more", "_law_most"]) fun _ _ _ _ _ _ us hl => match us, hl with | [_, _, _], _ => rfl
  have F6 := fun_mk (st := s__law_cell) l6 c6 k6
  have b6 := F6.binds (ps := ["_law_script", "_law_k"]) fun _ _ _ _ _ _ us hl => match us, hl with | [_, _], _ => rfl
  have F7 := fun_mk (st := s__law_spread) l7 c7 k7
  have b7 := F7.binds (ps := ["_law_cell_here", "_law_size"]) fun _ _ _ _ _ _ us hl => match us, hl with | [_, _], _ => rfl
  have F8 := fun_mk (st := s_spread_simple) l8 c8 k8
  have b8 := F8.binds (ps := ["row"]) fun _ _ _ _ _ _ us hl => match us, hl with | [_], _ => rfl
  have F9 := fun_mk (st := s__law_spread_simple) l9 c9 k9
  have b9 := F9.binds (ps := ["_law_row"]) fun _ _ _ _ _ _ us hl => match us, hl with | [_], _ => rfl
  have F10 := fun_mk (st := s_number_of) l10 c10 k10
  have b10 := F10.binds (ps := ["size", "digits"]) fun _ _ _ _ _ _ us hl => match us, hl with | [_, _], _ => rfl
  have F11 := fun_mk (st := s_new_cell) l11 c11 k11
  have b11 := F11.binds (ps := ["one", "window"]) fun _ _ _ _ _ _ us hl => match us, hl with | [_, _], _ => rfl
  have F12 := fun_mk (st := s_apply_word) l12 c12 k12
  have b12 := F12.binds (ps := ["one", "word"]) fun _ _ _ _ _ _ us hl => match us, hl with | [_, _], _ => rfl
  have F13 := fun_mk (st := s_spread_image) l13 c13 k13
  have b13 := F13.binds (ps := ["one", "row"]) fun _ _ _ _ _ _ us hl => match us, hl with | [_, _], _ => rfl
  have F14 := fun_mk (st := s__law_spread_cell) l14 c14 k14
  have b14 := F14.binds (ps := ["_law_row", "_law_place"]) fun _ _ _ _ _ _ us hl => match us, hl with | [_, _], _ => rfl
  have F15 := fun_mk (st := s__law_spread_image) l15 c15 k15
  have b15 := F15.binds (ps := ["_law_one", "_law_row"]) fun _ _ _ _ _ _ us hl => match us, hl with | [_, _], _ => rfl
  have F16 := fun_mk (st := s_spread_cell) l16 c16 k16
  have b16 := F16.binds (ps := ["row", "place"]) fun _ _ _ _ _ _ us hl => match us, hl with | [_, _], _ => rfl
  have F17 := fun_mk (st := s_law) l17 c17 k17
  refine ⟨PySem.W.fnOf "law" "law" (defArgs s_law) (defBody s_law) (defScope s_law) .none kV17 dc17 pm17 an17 cd17 ct17, fun s v => .of_eq rfl, fun base _ _ => ?_⟩
  have H0 : Has l.prog w K mg base 1 "_law_draws" ["_law_cell_here", "_law_limits"] PF.f__law_draws := Has.mk' F0 (PySem.W.mg_of X G a0) b0 (ok__law_draws F0 bl )
  have H1 : Has l.prog w K mg base 1 "_law_power" ["_law_size", "_law_exponent"] PF.f__law_power := Has.mk' F1 (PySem.W.mg_of X G a1) b1 (ok__law_power F1 bl )
  have H2 : Has l.prog w K mg base 1 "_law_digits" ["_law_index_here", "_law_size", "_law_width"] PF.f__law_digits := Has.mk' F2 (PySem.W.mg_of X G a2) b2 (ok__law_digits F2 bl )
  have H3 : Has l.prog w K mg base 1 "_law_index" ["_law_cells", "_law_size"] PF.f__law_index := Has.mk' F3 (PySem.W.mg_of X G a3) b3 (ok__law_index F3 bl )
  have H4 : Has l.prog w K mg base 2 "_law_table" ["_law_cell_here", "_law_size", "_law_width"] PF.f__law_table := Has.mk' F4 (PySem.W.mg_of X G a4) b4 (ok__law_table F4 bl H1 H0 H2 H3)
  have H5 : Has l.prog w K mg base 3 "_law_map" ["_law_cell_here", "_law_more", "_law_most"] PF.f__law_map := Has.mk' F5 (PySem.W.mg_of X G a5) b5 (ok__law_map F5 bl H0 H1 H4)
  have H6 : Has l.prog w K mg base 1 "_law_cell" ["_law_script", "_law_k"] PF.f__law_cell := Has.mk' F6 (PySem.W.mg_of X G a6) b6 (ok__law_cell F6 bl )
  have H7 : Has l.prog w K mg base 2 "_law_spread" ["_law_cell_here", "_law_size"] PF.f__law_spread := Has.mk' F7 (PySem.W.mg_of X G a7) b7 (ok__law_spread F7 bl H0)
  have H8 : Has l.prog w K mg base 1 "spread_simple" ["row"] PF.f_spread_simple := Has.mk' F8 (PySem.W.mg_of X G a8) b8 (ok_spread_simple F8 bl )
  have H9 : Has l.prog w K mg base 1 "_law_spread_simple" ["_law_row"] PF.f__law_spread_simple := Has.mk' F9 (PySem.W.mg_of X G a9) b9 (ok__law_spread_simple F9 bl )
  have H10 : Has l.prog w K mg base 1 "number_of" ["size", "digits"] PF.f_number_of := Has.mk' F10 (PySem.W.mg_of X G a10) b10 (ok_number_of F10 bl )
  have H11 : Has l.prog w K mg base 2 "new_cell" ["one", "window"] PF.f_new_cell := Has.mk' F11 (PySem.W.mg_of X G a11) b11 (ok_new_cell F11 bl H10)
  have H12 : Has l.prog w K mg base 3 "apply_word" ["one", "word"] PF.f_apply_word := Has.mk' F12 (PySem.W.mg_of X G a12) b12 (ok_apply_word F12 bl H11)
  have H13 : Has l.prog w K mg base 4 "spread_image" ["one", "row"] PF.f_spread_image := Has.mk' F13 (PySem.W.mg_of X G a13) b13 (ok_spread_image F13 bl H12 H8 H11)
  have H14 : Has l.prog w K mg base 1 "_law_spread_cell" ["_law_row", "_law_place"] PF.f__law_spread_cell := Has.mk' F14 (PySem.W.mg_of X G a14) b14 (ok__law_spread_cell F14 bl )
  have H15 : Has l.prog w K mg base 2 "_law_spread_image" ["_law_one", "_law_row"] PF.f__law_spread_image := Has.mk' F15 (PySem.W.mg_of X G a15) b15 (ok__law_spread_image F15 bl H3 H14 H9)
  have H16 : Has l.prog w K mg base 1 "spread_cell" ["row", "place"] PF.f_spread_cell := Has.mk' F16 (PySem.W.mg_of X G a16) b16 (ok_spread_cell F16 bl )
  exact ok_law F17 bl H5 H6 H7 H8 H9 H13 H15 H16 H14 H3
end LK08

open PySem PySem.W PyProof.Rows
set_option maxHeartbeats 0 in
theorem PySem.Challenge.cw_edenrow_k08_spread_rows_holds : PySem.Challenge.rw_edenrow_k08_spread_rows.Holds := by
  w_on; o_law; k_head; (case hw => w_witness2)
  k_fill
  refine PL.walkG (l := PySem.Challenge.rw_edenrow_k08_spread_rows) (k := 5) (x := "_law_script") (LF := PF.f_law_k08) rfl rfl ⟨rfl, by decide, by decide⟩ (fun w h Y => PySem.W.kIn_of Y) ?F PF.plain_law_k08
  case F =>
    intro w mg fa h KX G hmg
    refine' LK08.all_mk KX G hmg ?a0 ?l0 ?c0 ?k0 ?a1 ?l1 ?c1 ?k1 ?a2 ?l2 ?c2 ?k2 ?a3 ?l3 ?c3 ?k3 ?a4 ?l4 ?c4 ?k4 ?a5 ?l5 ?c5 ?k5 ?a6 ?l6 ?c6 ?k6 ?a7 ?l7 ?c7 ?k7 ?a8 ?l8 ?c8 ?k8 ?a9 ?l9 ?c9 ?k9 ?a10 ?l10 ?c10 ?k10 ?a11 ?l11 ?c11 ?k11 ?a12 ?l12 ?c12 ?k12 ?a13 ?l13 ?c13 ?k13 ?a14 ?l14 ?c14 ?k14 ?a15 ?l15 ?c15 ?k15 ?a16 ?l16 ?c16 ?k16 ?a17 ?l17 ?c17 ?k17 ?z_len ?z_range ?z_repr ?z_isinstance ?z_tuple ?z_int ?z_abs ?z_sum ?z_min ?z_max
    (case a0 => k_is)
    (case l0 => k_is)
    (case c0 => k_is)
    (case k0 => k_is)
    (case a1 => k_is)
    (case l1 => k_is)
    (case c1 => k_is)
    (case k1 => k_is)
    (case a2 => k_is)
    (case l2 => k_is)
    (case c2 => k_is)
    (case k2 => k_is)
    (case a3 => k_is)
    (case l3 => k_is)
    (case c3 => k_is)
    (case k3 => k_is)
    (case a4 => k_is)
    (case l4 => k_is)
    (case c4 => k_is)
    (case k4 => k_is)
    (case a5 => k_is)
    (case l5 => k_is)
    (case c5 => k_is)
    (case k5 => k_is)
    (case a6 => k_is)
    (case l6 => k_is)
    (case c6 => k_is)
    (case k6 => k_is)
    (case a7 => k_is)
    (case l7 => k_is)
    (case c7 => k_is)
    (case k7 => k_is)
    (case a8 => k_is)
    (case l8 => k_is)
    (case c8 => k_is)
    (case k8 => k_is)
    (case a9 => k_is)
    (case l9 => k_is)
    (case c9 => k_is)
    (case k9 => k_is)
    (case a10 => k_is)
    (case l10 => k_is)
    (case c10 => k_is)
    (case k10 => k_is)
    (case a11 => k_is)
    (case l11 => k_is)
    (case c11 => k_is)
    (case k11 => k_is)
    (case a12 => k_is)
    (case l12 => k_is)
    (case c12 => k_is)
    (case k12 => k_is)
    (case a13 => k_is)
    (case l13 => k_is)
    (case c13 => k_is)
    (case k13 => k_is)
    (case a14 => k_is)
    (case l14 => k_is)
    (case c14 => k_is)
    (case k14 => k_is)
    (case a15 => k_is)
    (case l15 => k_is)
    (case c15 => k_is)
    (case k15 => k_is)
    (case a16 => k_is)
    (case l16 => k_is)
    (case c16 => k_is)
    (case k16 => k_is)
    (case a17 => k_is)
    (case l17 => k_is)
    (case c17 => k_is)
    (case k17 => k_is)
    (case z_len => k_is)
    (case z_range => k_is)
    (case z_repr => k_is)
    (case z_isinstance => k_is)
    (case z_tuple => k_is)
    (case z_int => k_is)
    (case z_abs => k_is)
    (case z_sum => k_is)
    (case z_min => k_is)
    (case z_max => k_is)
