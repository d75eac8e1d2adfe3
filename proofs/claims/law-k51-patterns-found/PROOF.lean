import PyProof.Rows.All
import PySem.Challenge.RW_edenrow_k51_patterns_found
import HandS.Base
import HandS.Call
import HandS.List
import HandS.Comp
import HandS.Ends
import HandS.Words
import HandS.WordsList
import HandS.Exc
import HandS.TryOnly
import HandS.ExcOwn
import HandS.TupAny
import HandS.Style
import HandS.Deep
import KE.DataEq
import KE.DataCmp
import KE.DataIsa
import KE.SortData
import PyProof.ReprReads
import PyProof.Rows.SeqMore
import PyProof.Rows.ListMulArg
import PyProof.ReprRoads
import HandS.RaiseMore
import KE.DataMinMax
import HandS.Flow
import HandS.Iter
import HandS.Zip
import HandS.Rev
import PyProof.ReprLen
import HandS.ExcIs
import PyProof.ExcBaseAll.ValueError
import KE.KRevSl
import HandS.RevTup
import PyProof.ListRange
import PyProof.IsiTupleOf
import PyProof.IsiTupleAll
import HandS.TryMany
set_option Elab.async false
set_option linter.all false
set_option maxRecDepth 100000
set_option maxHeartbeats 4000000
namespace PL
open PySem PySem.Spec PyProof.Rows L2
mutual
inductive Rep (L : Addr → HO → Prop) : V → PyData → Prop
  | non : Rep L .non .none
  | bl (b : Bool) : Rep L (.bl b) (.bool b)
  | int (i : Int) : Rep L (.int i) (.int i)
  | str (x : Str) : Rep L (.str x) (.str x)
  | lst {a : Addr} {xs : List V} {ds : List PyData} : L a (.lst xs) → RepAll L xs ds → Rep L (.ref a) (.list ds)
  | tup {a : Addr} {xs : List V} {ds : List PyData} : L a (.tup xs) → RepAll L xs ds → Rep L (.ref a) (.tuple ds)
inductive RepAll (L : Addr → HO → Prop) : List V → List PyData → Prop
  | nil : RepAll L [] []
  | cons {v : V} {vs : List V} {d : PyData} {ds : List PyData} : Rep L v d → RepAll L vs ds → RepAll L (v :: vs) (d :: ds)
end
section
variable {L L' : Addr → HO → Prop}
mutual
theorem Rep.mono (h : ∀ a o, L a o → L' a o) : ∀ {v : V} {d : PyData}, Rep L v d → Rep L' v d
  | _, _, .non => .non
  | _, _, .bl b => .bl b
  | _, _, .int i => .int i
  | _, _, .str x => .str x
  | _, _, .lst e r => .lst (h _ _ e) (RepAll.mono h r)
  | _, _, .tup e r => .tup (h _ _ e) (RepAll.mono h r)
theorem RepAll.mono (h : ∀ a o, L a o → L' a o) : ∀ {vs : List V} {ds : List PyData}, RepAll L vs ds → RepAll L' vs ds
  | _, _, .nil => .nil
  | _, _, .cons r rs => .cons (Rep.mono h r) (RepAll.mono h rs)
end
theorem RepAll.length : ∀ {vs : List V} {ds : List PyData}, RepAll L vs ds → vs.length = ds.length
  | _, _, .nil => rfl
  | _, _, .cons _ rs => congrArg (· + 1) rs.length
theorem RepAll.at : ∀ {vs : List V} {ds : List PyData} {i : Nat} {d : PyData}, RepAll L vs ds → ds[i]? = some d → ∃ v, vs[i]? = some v ∧ Rep L v d
  | _, _, _, _, .nil, h => by simp at h
  | _, _, 0, _, .cons r _, h => by simp at h; subst h; exact ⟨_, rfl, r⟩
  | _, _, i + 1, _, .cons _ rs, h => by simpa using RepAll.at (i := i) rs (by simpa using h)
theorem RepAll.at' : ∀ {vs : List V} {ds : List PyData} {i : Nat} {v : V}, RepAll L vs ds → vs[i]? = some v → ∃ d, ds[i]? = some d ∧ Rep L v d
  | _, _, _, _, .nil, h => by simp at h
  | _, _, 0, _, .cons r _, h => by simp at h; subst h; exact ⟨_, rfl, r⟩
  | _, _, i + 1, _, .cons _ rs, h => by simpa using RepAll.at' (i := i) rs (by simpa using h)
theorem RepAll.append : ∀ {vs ws : List V} {ds es : List PyData}, RepAll L vs ds → RepAll L ws es → RepAll L (vs ++ ws) (ds ++ es)
  | _, _, _, _, .nil, r => r
  | _, _, _, _, .cons r rs, q => .cons r (RepAll.append rs q)
theorem RepAll.take : ∀ {vs : List V} {ds : List PyData} (n : Nat), RepAll L vs ds → RepAll L (vs.take n) (ds.take n)
  | _, _, 0, _ => .nil
  | _, _, _ + 1, .nil => .nil
  | _, _, n + 1, .cons r rs => .cons r (RepAll.take n rs)
theorem RepAll.drop : ∀ {vs : List V} {ds : List PyData} (n : Nat), RepAll L vs ds → RepAll L (vs.drop n) (ds.drop n)
  | _, _, 0, r => r
  | _, _, _ + 1, .nil => .nil
  | _, _, n + 1, .cons _ rs => RepAll.drop n rs
theorem RepAll.reverse {vs : List V} {ds : List PyData} (r : RepAll L vs ds) : RepAll L vs.reverse ds.reverse := by
  induction ds generalizing vs with
  | nil => cases r; exact .nil
  | cons d ds ih =>
    cases r with
    | cons r rs => rw [List.reverse_cons, List.reverse_cons]; exact (ih rs).append (.cons r .nil)
theorem RepAll.set {v : V} {d : PyData} (r : Rep L v d) : ∀ {vs : List V} {ds : List PyData} (i : Nat), RepAll L vs ds → RepAll L (vs.set i v) (ds.set i d)
  | _, _, _, .nil => .nil
  | _, _, 0, .cons _ rs => .cons r rs
  | _, _, i + 1, .cons q rs => .cons q (RepAll.set r i rs)
theorem RepAll.rep {vs : List V} {ds : List PyData} (r : RepAll L vs ds) : ∀ k : Nat, RepAll L (List.replicate k vs).flatten (List.replicate k ds).flatten
  | 0 => .nil
  | k + 1 => by rw [List.replicate_succ, List.replicate_succ, List.flatten_cons, List.flatten_cons]; exact r.append (RepAll.rep r k)
theorem RepAll.dropLast {vs : List V} {ds : List PyData} (r : RepAll L vs ds) : RepAll L vs.dropLast ds.dropLast := by
  rw [List.dropLast_eq_take, List.dropLast_eq_take, r.length]; exact r.take _
theorem RepAll.ints (L : Addr → HO → Prop) : ∀ ns : List Int, RepAll L (ns.map V.int) (ns.map PyData.int)
  | [] => .nil
  | n :: ns => .cons (.int n) (RepAll.ints L ns)
theorem RepAll.of_ints : ∀ {ns : List Int} {vs : List V}, RepAll L vs (ns.map PyData.int) → vs = ns.map V.int
  | [], _, .nil => rfl
  | _ :: _, _, .cons r rs => by cases r; rw [RepAll.of_ints rs]; rfl
theorem Rep.intV {v : V} {i : Int} (r : Rep L v (.int i)) : v = .int i := by cases r; rfl
theorem Rep.blV {v : V} {i : Bool} (r : Rep L v (.bool i)) : v = .bl i := by cases r; rfl
theorem Rep.strV {v : V} {i : Str} (r : Rep L v (.str i)) : v = .str i := by cases r; rfl
theorem Rep.nonV {v : V} (r : Rep L v .none) : v = .non := by cases r; rfl
theorem Rep.lstV {v : V} {ds : List PyData} (r : Rep L v (.list ds)) : ∃ a xs, v = .ref a ∧ L a (.lst xs) ∧ RepAll L xs ds := by cases r with | lst e r => exact ⟨_, _, rfl, e, r⟩
theorem Rep.tupV {v : V} {ds : List PyData} (r : Rep L v (.tuple ds)) : ∃ a xs, v = .ref a ∧ L a (.tup xs) ∧ RepAll L xs ds := by cases r with | tup e r => exact ⟨_, _, rfl, e, r⟩
end
def LH (K : PySem.W.Frag) (H : Hp) (a : Addr) : HO → Prop
  | .lst xs => SqL K H a xs
  | .tup xs => SqT K H a xs
  | o => H a = some o
def LN (N : Hp) (a : Addr) (o : HO) : Prop := N a = some o
theorem Same.sqt {K : PySem.W.Frag} {H H' : Hp} {a : Addr} {xs : List V} (e : Same H H') (h : SqT K H a xs) : SqT K H' a xs := by
  rcases h with (h | ⟨o, h⟩) | h
  · exact .inl (.inl (e _ _ h))
  · exact .inl (.inr ⟨o, e _ _ h⟩)
  · exact .inr h
theorem LH.mono {K : PySem.W.Frag} {H H' : Hp} (e : Same H H') : ∀ a o, LH K H a o → LH K H' a o := fun a o h => by
  cases o <;> first | exact Same.seq e h | exact Same.sqt e h | exact e _ _ h
theorem LN.mono {N N' : Hp} (e : Same N N') : ∀ a o, LN N a o → LN N' a o := fun a o h => e a o h
theorem LN.toH {K : PySem.W.Frag} {N H : Hp} (e : Same N H) : ∀ a o, LN N a o → LH K H a o := fun a o h => by
  have h' : H a = some o := e _ _ h
  cases o <;> first | exact SqL.of h' | exact SqT.of h' | exact h'
/-- the part of B that is new over H0 -/
def nw (H0 B : Hp) : Hp := fun a => match H0 a with | none => B a | some _ => none
theorem nw_some {H0 B : Hp} {a : Addr} {o : HO} (h : nw H0 B a = some o) : H0 a = none ∧ B a = some o := by
  unfold nw at h; split at h
  · exact ⟨by assumption, h⟩
  · cases h
theorem nw_of {H0 B : Hp} {a : Addr} {o : HO} (h0 : H0 a = none) (h : B a = some o) : nw H0 B a = some o := by
  unfold nw; rw [h0]; exact h
theorem nw_same {H0 B : Hp} : Same (nw H0 B) B := fun _ _ h => (nw_some h).2
theorem nw_mono {H0 B B' : Hp} (e : Same B B') : Same (nw H0 B) (nw H0 B') := fun _ _ h => nw_of (nw_some h).1 (e _ _ (nw_some h).2)
/-- a def's entry: the heap, its part that is frozen -/
structure En where
  H : Hp
  B : Hp
  ea : Addr
  ec : Str → Prop
def LF (K : PySem.W.Frag) (H0 : En) (B : Hp) : Bool → Addr → HO → Prop
  | true => LN (nw H0.H B)
  | false => LH K B
section
variable {K : PySem.W.Frag} {H0 : En} {B B' H : Hp} {fr : Bool} {v : V} {d : PyData} {vs : List V} {ds : List PyData}
theorem LF.mono (e : Same B B') : ∀ a o, LF K H0 B fr a o → LF K H0 B' fr a o := fun a o h => by
  cases fr with
  | true => exact nw_mono e a o h
  | false => exact LH.mono e a o h
theorem LF.toH (e : Same B H) : ∀ a o, LF K H0 B fr a o → LH K H a o := fun a o h => by
  cases fr with
  | true => exact LN.toH (fun _ _ q => e _ _ (nw_same _ _ q)) a o h
  | false => exact LH.mono e a o h
theorem LF.and1 {fr' : Bool} : ∀ a o, LF K H0 B fr a o → LF K H0 B (fr && fr') a o := fun a o h => by
  cases fr with
  | false => exact h
  | true =>
    cases fr' with
    | true => exact h
    | false => exact LN.toH nw_same a o h
theorem LF.and2 {fr' : Bool} : ∀ a o, LF K H0 B fr a o → LF K H0 B (fr' && fr) a o := fun a o h => by
  rw [Bool.and_comm]; exact LF.and1 a o h
end
def scal : PyData → Bool
  | .none => true
  | .bool _ => true
  | .int _ => true
  | .str _ => true
  | _ => false
theorem Rep.scal {L L' : Addr → HO → Prop} {v : V} {d : PyData} (r : Rep L v d) (h : PL.scal d = true) : Rep L' v d := by
  cases r with
  | non => exact .non
  | bl b => exact .bl b
  | int i => exact .int i
  | str x => exact .str x
  | lst _ _ => cases h
  | tup _ _ => cases h
def vOf : PyData → V
  | .none => .non
  | .bool b => .bl b
  | .int i => .int i
  | .str x => .str x
  | _ => .non
theorem Rep.vOf {L : Addr → HO → Prop} {d : PyData} (h : PL.scal d = true) : Rep L (PL.vOf d) d := by
  cases d with
  | none => exact .non
  | bool b => exact .bl b
  | int i => exact .int i
  | str x => exact .str x
  | list _ => cases h
  | tuple _ => cases h
  | dict _ => cases h
/-- a value of a dict -/
inductive SV where
  | i (n : Int)
  | b (x : Bool)
def SV.v : SV → V
  | .i n => .int n
  | .b x => .bl x
def SV.d : SV → PyData
  | .i n => .int n
  | .b x => .bool x
/-- owned things that change: a list of own lists, a dict with keys that are ints, tuples of ints -/
inductive CK where
  | nst (dss : List (List PyData))
  | dI (m : List (Int × SV))
  | dT (m : List (List Int × SV))
def CelR (K : PySem.W.Frag) (H0 : En) (B N : Hp) (v : V) : CK → Prop
  | .nst dss => ∃ (p : Addr) (ps : List Addr), v = .ref p ∧ N p = some (.lst (ps.map V.ref)) ∧ p ∉ ps ∧ ps.Nodup ∧ ps.length = dss.length ∧ ∀ (i : Nat) q ds, ps[i]? = some q → dss[i]? = some ds → ∃ vs, N q = some (.lst vs) ∧ RepAll (LF K H0 B true) vs ds
  | .dI m => ∃ p, v = .ref p ∧ N p = some (.dK (m.map fun e => (.inl e.1, e.2.v)))
  | .dT m => ∃ p, v = .ref p ∧ N p = some (.dT (m.map fun e => (e.1.map .inl, e.2.v)))
theorem CelR.mono {K : PySem.W.Frag} {H0 : En} {B B' N : Hp} {v : V} {k : CK} (e : Same B B') (h : CelR K H0 B N v k) : CelR K H0 B' N v k := by
  cases k with
  | nst dss =>
    obtain ⟨p, ps, h1, h2, h3, h4, h5, h6⟩ := h
    exact ⟨p, ps, h1, h2, h3, h4, h5, fun i q ds a b => let ⟨vs, c, d⟩ := h6 i q ds a b; ⟨vs, c, d.mono (LF.mono e)⟩⟩
  | dI m => obtain ⟨p, h1, h2⟩ := h; exact ⟨p, h1, h2⟩
  | dT m => obtain ⟨p, h1, h2⟩ := h; exact ⟨p, h1, h2⟩
inductive Sl where
  | und
  | val (fr : Bool) (d : PyData)
  | own (fr : Bool) (ds : List PyData)
  | full (d : PyData)
  | bor (fr : Bool) (ds : List PyData)
  | brf (d : PyData)
  | exn (n : Str)
  | cel (k : CK)
inductive Rs where
  | ok (s : Sl)
  | ex (nm : Str)
abbrev Ev := List Sl
abbrev EF := Ev → Option Rs
def mkv (fr : Bool) (d : PyData) : Sl := .val (fr || scal d) d
def frz : Sl → Sl
  | .own fr ds => .val fr (.list ds)
  | .full d => .val true d
  | .cel _ => .und
  | s => s
/-- the data of a frozen or borrowed result -/
def dat : Sl → Option PyData
  | .val _ d => some d
  | .bor _ ds => some (.list ds)
  | .brf d => some d
  | _ => none
def bz (r : Option Rs) (k : Sl → Option Rs) : Option Rs :=
  match r with
  | some (.ok s) => k (frz s)
  | some (.ex n) => some (.ex n)
  | none => none
def emp : Hp := fun _ => none
structure Nx (B H B' H' : Hp) : Prop where
  b : Same B B'
  bh : Same B' H'
  h : Same H H'
  no : ∀ a, B a = none → H a ≠ none → B' a = none
theorem Nx.refl {B H : Hp} (e : Same B H) : Nx B H B H := ⟨Same.refl _, e, Same.refl _, fun _ h _ => h⟩
theorem Nx.trans {B H B1 H1 B2 H2 : Hp} (a : Nx B H B1 H1) (b : Nx B1 H1 B2 H2) : Nx B H B2 H2 :=
  ⟨a.b.trans b.b, b.bh, a.h.trans b.h, fun c h1 h2 => b.no c (a.no c h1 h2) (fun z => by
    cases q : H c with
    | none => exact h2 q
    | some o => rw [a.h c o q] at z; cases z)⟩
theorem Same.ne {H H' : Hp} (e : Same H H') {a : Addr} (h : H a ≠ none) : H' a ≠ none := fun z => by
  cases q : H a with
  | none => exact h q
  | some o => rw [e a o q] at z; cases z
theorem Same.none {H H' : Hp} (e : Same H H') {a : Addr} (h : H' a = none) : H a = none := e.free h
theorem same_upd {H : Hp} {p : Addr} {o : HO} (h : H p = none) : Same H (upd H p o) := fun b x e => by
  rw [upd_ne (ne_of_none e h)]; exact e
theorem same_upd2 {B H : Hp} {p : Addr} {o : HO} (e : Same B H) (h : H p = some o) : Same (upd B p o) H := fun b x q => by
  by_cases hb : b = p
  · subst hb; rw [upd_same] at q; cases q; exact h
  · rw [upd_ne hb] at q; exact e _ _ q
/-- a temporary's own cells -/
structure TF (H B' H' T : Hp) : Prop where
  s : Same T H'
  n : ∀ a, T a ≠ none → H a = none ∧ B' a = none
theorem TF.emp {H B' H' : Hp} : TF H B' H' emp := ⟨fun _ _ h => (nomatch h), fun _ h => absurd rfl h⟩
/-- results -/
def RR (K : PySem.W.Frag) (H0 : En) (B H T : Hp) (v : V) : Sl → Prop
  | .und => True
  | .val fr d => Rep (LF K H0 B fr) v d
  | .own fr ds => ∃ p vs, v = .ref p ∧ T p = some (.lst vs) ∧ RepAll (LF K H0 B fr) vs ds
  | .full d => Rep (LN T) v d
  | .bor fr ds => ∃ p vs, v = .ref p ∧ H p = some (.lst vs) ∧ RepAll (LF K H0 B fr) vs ds
  | .brf d => Rep (LN H) v d
  | .exn _ => False
  | .cel k => CelR K H0 B T v k
/-- frozen or borrowed -/
def RZ (K : PySem.W.Frag) (H0 : En) (B H : Hp) (v : V) : Sl → Prop
  | .val fr d => Rep (LF K H0 B fr) v d
  | .bor fr ds => ∃ p vs, v = .ref p ∧ H p = some (.lst vs) ∧ RepAll (LF K H0 B fr) vs ds
  | .brf d => Rep (LN H) v d
  | .und => True
  | _ => False
def KQ (K : PySem.W.Frag) (H0 : En) (B H : Hp) (s : Sl) (Q : VK) : Prop := ∀ v B' H' T, Nx B H B' H' → TF H B' H' T → RR K H0 B' H' T v s → Q v H'
def KZ (K : PySem.W.Frag) (H0 : En) (B H : Hp) (s : Sl) (Q : VK) : Prop := ∀ v B' H', Nx B H B' H' → RZ K H0 B' H' v s → Q v H'
theorem RZ.data {K : PySem.W.Frag} {H0 : En} {B H : Hp} {v : V} {s : Sl} {d : PyData} (e : Same B H) (r : RZ K H0 B H v s) (h : dat s = some d) : Rep (LH K H) v d := by
  cases s with
  | und => cases h
  | own fr ds => cases h
  | full d => cases h
  | val fr d' => cases h; exact Rep.mono (LF.toH e) r
  | bor fr ds =>
    cases h
    obtain ⟨p, vs, rfl, h1, h2⟩ := r
    exact .lst (SqL.of h1) (h2.mono (LF.toH e))
  | brf d' => cases h; exact Rep.mono (LN.toH (Same.refl _)) r
  | exn n => cases h
  | cel k => cases h
theorem RZ.mono {K : PySem.W.Frag} {H0 : En} {B H B' H' : Hp} {v : V} {s : Sl} (n : Nx B H B' H') (r : RZ K H0 B H v s) : RZ K H0 B' H' v s := by
  cases s with
  | und => exact r
  | own fr ds => exact r
  | full d => exact r
  | val fr d => exact Rep.mono (LF.mono n.b) r
  | bor fr ds =>
    obtain ⟨p, vs, e, h1, h2⟩ := r
    exact ⟨p, vs, e, n.h _ _ h1, h2.mono (LF.mono n.b)⟩
  | brf d => exact Rep.mono (LN.mono n.h) r
  | exn n => exact r
  | cel k => exact r
end PL
namespace PL
open PySem PySem.Spec PyProof.Rows L2
def SR (K : PySem.W.Frag) (H0 : En) (B N : Hp) (o : Option (Option V)) : Sl → Prop
  | .und => True
  | .val fr d => ∃ v, o = some (some v) ∧ Rep (LF K H0 B fr) v d
  | .own fr ds => ∃ p vs, o = some (some (.ref p)) ∧ N p = some (.lst vs) ∧ RepAll (LF K H0 B fr) vs ds
  | .full d => ∃ v, o = some (some v) ∧ Rep (LN N) v d
  | .exn n => o = some (some (.ref H0.ea)) ∧ H0.ec n
  | .cel k => ∃ v, o = some (some v) ∧ CelR K H0 B N v k
  | _ => False
theorem SR.mono {K : PySem.W.Frag} {H0 : En} {B B' N : Hp} {o : Option (Option V)} {s : Sl} (e : Same B B') (h : SR K H0 B N o s) : SR K H0 B' N o s := by
  cases s with
  | und => trivial
  | val fr d => obtain ⟨v, h1, h2⟩ := h; exact ⟨v, h1, h2.mono (LF.mono e)⟩
  | own fr ds => obtain ⟨p, vs, h1, h2, h3⟩ := h; exact ⟨p, vs, h1, h2, h3.mono (LF.mono e)⟩
  | full d => exact h
  | bor fr ds => exact h
  | brf d => exact h
  | exn n => exact h
  | cel k => obtain ⟨v, h1, h2⟩ := h; exact ⟨v, h1, h2.mono e⟩
/-- F i: the cells that slot i owns -/
abbrev FF (K : PySem.W.Frag) (H0 : En) (B H : Hp) (σ : L2.St) (ρ : Ev) (F : Nat → Hp) : Prop :=
  (∀ i, Same (F i) H) ∧ (∀ i a, F i a ≠ none → B a = none ∧ H0.H a = none) ∧ (∀ i j a, i ≠ j → F i a ≠ none → F j a = none) ∧ ∀ i s, ρ[i]? = some s → SR K H0 B (F i) σ[i]? s
structure ER (K : PySem.W.Frag) (H0 : En) (B H : Hp) (σ : L2.St) (ρ : Ev) : Prop where
  e0 : Same H0.H H
  b0 : Same H0.B B
  n0 : ∀ a, H0.H a ≠ none → H0.B a = none → B a = none
  eB : Same B H
  len : σ.length = ρ.length
  ex : ∃ F : Nat → Hp, FF K H0 B H σ ρ F
section
variable {K : PySem.W.Frag} {H0 : En} {B H B' H' T : Hp} {σ : L2.St} {ρ : Ev}
theorem ER.nx (E : ER K H0 B H σ ρ) (n : Nx B H B' H') : ER K H0 B' H' σ ρ := by
  obtain ⟨F, f1, f2, f3, f4⟩ := E.ex
  refine ⟨E.e0.trans n.h, E.b0.trans n.b, fun a h1 h2 => n.no a (E.n0 a h1 h2) (PL.Same.ne E.e0 h1), n.bh, E.len, F, fun i => (f1 i).trans n.h, fun i a h => ⟨n.no a (f2 i a h).1 (PL.Same.ne (f1 i) h), (f2 i a h).2⟩, f3, fun i s h => (f4 i s h).mono n.b⟩
theorem FF.nx {F : Nat → Hp} (h : FF K H0 B H σ ρ F) (n : Nx B H B' H') : FF K H0 B' H' σ ρ F :=
  ⟨fun i => (h.1 i).trans n.h, fun i a q => ⟨n.no a (h.2.1 i a q).1 (PL.Same.ne (h.1 i) q), (h.2.1 i a q).2⟩, h.2.2.1, fun i s q => (h.2.2.2 i s q).mono n.b⟩
theorem FF.forget {F : Nat → Hp} (h : FF K H0 B H σ ρ F) {i : Nat} (o : Option V) : FF K H0 B H (σ.set i o) (ρ.set i .und) F := by
  refine ⟨h.1, h.2.1, h.2.2.1, fun j u hu => ?_⟩
  by_cases hj : j = i
  · subst hj
    have hl : j < ρ.length := by have := (List.getElem?_eq_some_iff.mp hu).1; rwa [List.length_set] at this
    rw [List.getElem?_set_self hl] at hu
    have hu' := Option.some.inj hu
    subst hu'
    trivial
  · rw [List.getElem?_set_ne (Ne.symm hj)] at hu
    rw [List.getElem?_set_ne (Ne.symm hj)]
    exact h.2.2.2 j u hu
theorem ER.nx0 (E : ER K H0 B H σ ρ) : Nx B H B H := Nx.refl E.eB
/-- may be stored -/
def stb : Sl → Bool
  | .bor _ _ => false
  | .brf _ => false
  | _ => true
/-- a slot is stored -/
theorem ER.set {i : Nat} {v : V} {s : Sl} (E : ER K H0 B H σ ρ) (n : Nx B H B' H') (t : TF H B' H' T) (r : RR K H0 B' H' T v s) (hs : stb s = true) : ER K H0 B' H' (σ.set i (some v)) (ρ.set i s) := by
  have E' := E.nx n
  obtain ⟨F, f1, f2, f3, f4⟩ := E.ex
  have tn : ∀ j a, F j a ≠ none → T a = none := fun j a h => by
    cases q : T a with
    | none => rfl
    | some o => exact absurd ((t.n a (by rw [q]; simp)).1) (PL.Same.ne (f1 j) h)
  refine ⟨E'.e0, E'.b0, E'.n0, E'.eB, by rw [List.length_set, List.length_set]; exact E.len, fun j => if j = i then T else F j, fun j => ?_, fun j a h => ?_, fun j k a hjk h => ?_, fun j u hu => ?_⟩
  · dsimp only
    split
    · exact t.s
    · exact (f1 j).trans n.h
  · dsimp only at h
    split at h
    · exact ⟨(t.n a h).2, E.e0.free (t.n a h).1⟩
    · exact ⟨n.no a (f2 j a h).1 (PL.Same.ne (f1 j) h), (f2 j a h).2⟩
  · dsimp only at h ⊢
    split at h
    · rw [if_neg (by omega)]
      cases q : F k a with
      | none => rfl
      | some o => exact absurd ((t.n a h).1) (PL.Same.ne (f1 k) (by rw [q]; simp))
    · split
      · exact tn j a h
      · exact f3 j k a hjk h
  · dsimp only
    by_cases hj : j = i
    · subst hj
      have hl : j < ρ.length := by have := (List.getElem?_eq_some_iff.mp hu).1; rwa [List.length_set] at this
      rw [List.getElem?_set_self hl] at hu
      have hu' := Option.some.inj hu
      subst hu'
      rw [if_pos rfl, List.getElem?_set_self (by rw [E.len]; exact hl)]
      cases s with
      | und => trivial
      | val fr d => exact ⟨v, rfl, r⟩
      | own fr ds => obtain ⟨p, vs, rfl, h1, h2⟩ := r; exact ⟨p, vs, rfl, h1, h2⟩
      | full d => exact ⟨v, rfl, r⟩
      | bor fr ds => cases hs
      | brf d => cases hs
      | exn n => exact r.elim
      | cel k => exact ⟨v, rfl, r⟩
    · rw [List.getElem?_set_ne (Ne.symm hj)] at hu
      rw [if_neg hj, List.getElem?_set_ne (Ne.symm hj)]
      exact (f4 j u hu).mono n.b
/-- slots are forgotten -/
theorem ER.forget {i : Nat} (E : ER K H0 B H σ ρ) (o : Option V) : ER K H0 B H (σ.set i o) (ρ.set i .und) := by
  obtain ⟨F, f1, f2, f3, f4⟩ := E.ex
  refine ⟨E.e0, E.b0, E.n0, E.eB, by rw [List.length_set, List.length_set]; exact E.len, F, f1, f2, f3, fun j u hu => ?_⟩
  by_cases hj : j = i
  · subst hj
    have hl : j < ρ.length := by have := (List.getElem?_eq_some_iff.mp hu).1; rwa [List.length_set] at this
    rw [List.getElem?_set_self hl] at hu
    cases hu
    trivial
  · rw [List.getElem?_set_ne (Ne.symm hj)] at hu
    rw [List.getElem?_set_ne (Ne.symm hj)]
    exact f4 j u hu
def wipeE (ρ : Ev) : List Nat → Ev
  | [] => ρ
  | i :: r => (wipeE ρ r).set i .und
theorem ER.wipe (E : ER K H0 B H σ ρ) : ∀ vs : List Nat, ER K H0 B H (L2.wipe σ vs) (wipeE ρ vs) := by
  intro vs
  induction vs with
  | nil => exact E
  | cons i r ih => exact ih.forget (i := i) none
theorem FF.wipe {F : Nat → Hp} (h : FF K H0 B H σ ρ F) : ∀ vs : List Nat, FF K H0 B H (L2.wipe σ vs) (wipeE ρ vs) F
  | [] => h
  | _ :: vs => (FF.wipe h vs).forget none
theorem wipeE_len (ρ : Ev) : ∀ vs : List Nat, (wipeE ρ vs).length = ρ.length
  | [] => rfl
  | _ :: vs => by unfold wipeE; rw [List.length_set, wipeE_len ρ vs]
def un (B T : Hp) : Hp := fun a => match B a with | some o => some o | none => T a
theorem KZ.toQ {s : Sl} {Q : VK} (e0 : Same H0.H H) (eB : Same B H) (h : KZ K H0 B H (frz s) Q) : KQ K H0 B H s Q := by
  intro v B' H' T n t r
  have h0 : ∀ a, T a ≠ none → H0.H a = none := fun a q => e0.free ((t.n a q).1)
  cases s with
  | und => exact h v B' H' n trivial
  | val fr d => exact h v B' H' n r
  | bor fr ds => exact h v B' H' n r
  | brf d => exact h v B' H' n r
  | exn n => exact r.elim
  | cel k => exact h v B' H' n trivial
  | own fr ds =>
    obtain ⟨p, vs, rfl, hp, ra⟩ := r
    have hTp : T p ≠ none := by rw [hp]; simp
    obtain ⟨g1, g2⟩ := t.n p hTp
    have hH' : H' p = some (.lst vs) := t.s _ _ hp
    have s1 : Same B' (upd B' p (.lst vs)) := same_upd g2
    refine h (.ref p) (upd B' p (.lst vs)) H' ⟨n.b.trans s1, same_upd2 n.bh hH', n.h, fun a q1 q2 => ?_⟩ ?_
    · have : a ≠ p := fun z => by subst z; exact q2 g1
      rw [upd_ne this]; exact n.no a q1 q2
    · show Rep (LF K H0 _ fr) _ _
      refine .lst ?_ (ra.mono (LF.mono s1))
      cases fr with
      | true => exact nw_of (h0 p hTp) upd_same
      | false => exact SqL.of upd_same
  | full d =>
    have g : ∀ a o, T a = some o → B' a = none := fun a o q => (t.n a (by rw [q]; simp)).2
    have sT : Same T (un B' T) := fun a o q => by unfold un; rw [g a o q]; exact q
    have sB : Same B' (un B' T) := fun a o q => by unfold un; rw [q]
    refine h v (un B' T) H' ⟨n.b.trans sB, fun a o q => ?_, n.h, fun a q1 q2 => ?_⟩ ?_
    · unfold un at q
      cases z : B' a with
      | some u => rw [z] at q; cases q; exact n.bh _ _ z
      | none => rw [z] at q; exact t.s _ _ q
    · unfold un
      rw [n.no a q1 q2]
      cases z : T a with
      | none => rfl
      | some u => exact absurd ((t.n a (by rw [z]; simp)).1) q2
    · show Rep (LF K H0 _ true) _ _
      exact Rep.mono (fun a o q => nw_of (h0 a (by rw [show T a = some o from q]; simp)) (sT a o q)) r
end
def KX (mg : Str → Option Value) (B H : Hp) (σ : L2.St) (W : WX) (n : Str) : Prop := ∀ c B' H', mg n = some c → Nx B H B' H' → W c none σ H'
theorem KX.nx {mg : Str → Option Value} {B H B' H' : Hp} {σ : L2.St} {W : WX} {n : Str} (h : KX mg B H σ W n) (x : Nx B H B' H') : KX mg B' H' σ W n := fun c B2 H2 hc y => h c B2 H2 hc (x.trans y)
/-- the outcome o, wanted by Q or by W -/
def OK (K : PySem.W.Frag) (mg : Str → Option Value) (H0 : En) (W : WX) (B H : Hp) (σ : L2.St) (o : Option Rs) (Q : VK) : Prop :=
  (∃ s, o = some (.ok s) ∧ KQ K H0 B H s Q) ∨ ∃ n, o = some (.ex n) ∧ KX mg B H σ W n
def OKZ (K : PySem.W.Frag) (mg : Str → Option Value) (H0 : En) (W : WX) (B H : Hp) (σ : L2.St) (o : Option Rs) (Q : VK) : Prop :=
  (∃ s, o = some (.ok s) ∧ KZ K H0 B H (frz s) Q) ∨ ∃ n, o = some (.ex n) ∧ KX mg B H σ W n
def tP (K : PySem.W.Frag) (mg : Str → Option Value) (H0 : En) (W : WX) (f : EF) : TE := fun σ H Q =>
  ∃ B ρ, ER K H0 B H σ ρ ∧ OK K mg H0 W B H σ (f ρ) Q
def tZ (K : PySem.W.Frag) (mg : Str → Option Value) (H0 : En) (W : WX) (f : EF) : TE := fun σ H Q =>
  ∃ B ρ, ER K H0 B H σ ρ ∧ OKZ K mg H0 W B H σ (f ρ) Q
/-- e is f, over the entry's heap H0; what it raises is taken by W -/
structure PD (X : Cx) (H0 : En) (W : WX) (e : Expr) (f : EF) : Prop where
  pe : PE X e (tP X.K X.mg H0 W f)
theorem peWeak {X : Cx} {e : Expr} {t t' : TE} (h : PE X e t) (i : ∀ σ H Q, t' σ H Q → t σ H Q) : PE X e t' := ⟨fun pins s σ H Q I q => h.run pins s σ H Q I (i σ H Q q)⟩
theorem ptWeak {X : Cx} {e : Expr} {t t' : TT} (h : PT X e t) (i : ∀ σ H Q, t' σ H Q → t σ H Q) : PT X e t' := ⟨fun pins s σ H Q I q => h.run pins s σ H Q I (i σ H Q q)⟩
theorem paWeak {X : Cx} {e : List Expr} {t t' : TA} (h : PA X e t) (i : ∀ σ H Q, t' σ H Q → t σ H Q) : PA X e t' := ⟨fun pos pins s σ H Q I q => h.run pos pins s σ H Q I (i σ H Q q)⟩
theorem psWeak {X : Cx} {e : Stmt} {t t' : TS} (h : PS X e t) (i : ∀ D σ H, t' D σ H → t D σ H) : PS X e t' := ⟨fun pins s σ H D I q => h.run pins s σ H D I (i D σ H q)⟩
theorem pssWeak {X : Cx} {e : List Stmt} {t t' : TS} (h : PSs X e t) (i : ∀ D σ H, t' D σ H → t D σ H) : PSs X e t' := ⟨fun pins s σ H D I q => h.run pins s σ H D I (i D σ H q)⟩
theorem piWeak {X : Cx} {tg e : Expr} {t t' : TI} (h : PI X tg e t) (i : ∀ σ H R, t' σ H R → t σ H R) : PI X tg e t' := ⟨fun pins s σ H R I q => h.run pins s σ H R I (i σ H R q)⟩
section
variable {X : Cx} {H0 : En} {W : WX} {e a b c : Expr} {f g k : EF}
theorem PD.z (h : PD X H0 W e f) : PE X e (tZ X.K X.mg H0 W f) := peWeak h.pe fun σ H Q ⟨B, ρ, E, r⟩ => ⟨B, ρ, E, by
  rcases r with ⟨s, h1, h2⟩ | ⟨n, h1, h2⟩
  · exact .inl ⟨s, h1, h2.toQ E.e0 E.eB⟩
  · exact .inr ⟨n, h1, h2⟩⟩
variable {K : PySem.W.Frag} {B H B' H' : Hp} {Q : VK} {σ : L2.St} {ρ : Ev}
theorem KQ.nx {s : Sl} (h : KQ K H0 B H s Q) (n : Nx B H B' H') : KQ K H0 B' H' s Q := fun v B2 H2 T n2 t r => h v B2 H2 T (n.trans n2) ⟨t.s, fun a q => ⟨n.h.free (t.n a q).1, (t.n a q).2⟩⟩ r
theorem KQ.same {v : V} {s : Sl} (h : KQ K H0 B H s Q) (e : Same B H) (r : RR K H0 B H emp v s) : Q v H := h v B H emp (Nx.refl e) TF.emp r
theorem KQ.int {i : Int} {fr : Bool} (h : KQ K H0 B H (.val fr (.int i)) Q) (e : Same B H) : Q (.int i) H := h.same e (.int i)
theorem KQ.bl {i : Bool} {fr : Bool} (h : KQ K H0 B H (.val fr (.bool i)) Q) (e : Same B H) : Q (.bl i) H := h.same e (.bl i)
theorem KQ.str {i : Str} {fr : Bool} (h : KQ K H0 B H (.val fr (.str i)) Q) (e : Same B H) : Q (.str i) H := h.same e (.str i)
theorem KQ.non {fr : Bool} (h : KQ K H0 B H (.val fr .none) Q) (e : Same B H) : Q .non H := h.same e .non
theorem KQ.new {fr : Bool} {ds : List PyData} {vs : List V} {p : Addr} (h : KQ K H0 B H (.own fr ds) Q) (e : Same B H) (r : RepAll (LF K H0 B fr) vs ds) (hp : H p = none) : Q (.ref p) (upd H p (.lst vs)) := by
  refine h (.ref p) B _ (fun a => if a = p then some (.lst vs) else none) ⟨Same.refl _, e.trans (same_upd hp), same_upd hp, fun _ q _ => q⟩ ⟨fun a o q => ?_, fun a q => ?_⟩ ⟨p, vs, rfl, if_pos rfl, r⟩
  · split at q
    · rename_i z; subst z; cases q; exact upd_same
    · cases q
  · split at q
    · rename_i z; subst z; exact ⟨hp, e.free hp⟩
    · exact absurd rfl q
theorem KQ.tup {fr : Bool} {ds : List PyData} {vs : List V} {p : Addr} (h : KQ K H0 B H (.val fr (.tuple ds)) Q) (e0 : Same H0.H H) (e : Same B H) (r : RepAll (LF K H0 B fr) vs ds) (hp : H p = none) : Q (.ref p) (upd H p (.tup vs)) := by
  have hB : B p = none := e.free hp
  have s1 : Same B (upd B p (.tup vs)) := same_upd hB
  refine h (.ref p) (upd B p (.tup vs)) _ emp ⟨s1, same_upd2 (e.trans (same_upd hp)) upd_same, same_upd hp, fun a q1 q2 => ?_⟩ TF.emp ?_
  · rw [upd_ne (fun z => by subst z; exact q2 hp)]; exact q1
  · show Rep (LF K H0 _ fr) _ _
    refine .tup ?_ (r.mono (LF.mono s1))
    cases fr with
    | true => exact nw_of (e0.free hp) upd_same
    | false => exact SqT.of upd_same
def eVar (i : Nat) : EF := fun ρ =>
  match ρ[i]? with
  | some (.val fr d) => some (.ok (.val fr d))
  | some (.own fr ds) => some (.ok (.bor fr ds))
  | some (.full d) => some (.ok (.brf d))
  | _ => none
theorem pdVar {i : Nat} (h : PE X e (tVar i)) : PD X H0 W e (eVar i) := ⟨peWeak h fun σ H Q ⟨B, ρ, E, r⟩ => by
  obtain ⟨F, f1, f2, f3, f4⟩ := E.ex
  rcases r with ⟨s, h1, h2⟩ | ⟨n, h1, h2⟩
  · unfold eVar at h1
    split at h1
    · rename_i fr d hr
      cases h1
      obtain ⟨v, e1, r1⟩ := f4 i _ hr
      exact ⟨v, e1, h2.same E.eB r1⟩
    · rename_i fr ds hr
      cases h1
      obtain ⟨p, vs, e1, e2, r1⟩ := f4 i _ hr
      exact ⟨_, e1, h2.same E.eB ⟨p, vs, rfl, f1 i _ _ e2, r1⟩⟩
    · rename_i d hr
      cases h1
      obtain ⟨v, e1, r1⟩ := f4 i _ hr
      exact ⟨v, e1, h2.same E.eB (Rep.mono (LN.mono (f1 i)) r1)⟩
    · cases h1
  · unfold eVar at h1
    split at h1 <;> cases h1⟩
def eC (d : PyData) : EF := fun _ => some (.ok (.val true d))
theorem pdC {v : V} {d : PyData} (h : PE X e (tC v)) (r : ∀ L, Rep L v d) : PD X H0 W e (eC d) := ⟨peWeak h fun σ H Q ⟨B, ρ, E, q⟩ => by
  rcases q with ⟨s, h1, h2⟩ | ⟨n, h1, h2⟩
  · cases h1
    exact h2.same E.eB (r _)
  · cases h1⟩
theorem pdInt {i : Int} {j pos} : PD X H0 W (.Constant (.int i) j pos) (eC (.int i)) := pdC pe_int fun _ => .int i
theorem pdBl {i : Bool} {j pos} : PD X H0 W (.Constant (.bool i) j pos) (eC (.bool i)) := pdC pe_bl fun _ => .bl i
theorem pdStr {i : Str} {j pos} : PD X H0 W (.Constant (.str i) j pos) (eC (.str i)) := pdC pe_str fun _ => .str i
theorem pdNon {j pos} : PD X H0 W (.Constant .none j pos) (eC .none) := pdC pe_non fun _ => .non
def Op2 (X : Cx) (H0 : En) (r : R2) (f : Sl → Sl → Option Sl) : Prop := ∀ (B H : Hp) (x y : Sl) (v w : V) (s : Sl) (Q : VK), Same H0.H H → Same B H → RZ X.K H0 B H v x → RZ X.K H0 B H w y → f x y = some s → KQ X.K H0 B H s Q → r v w H Q
def okO (o : Option Sl) : Option Rs := o.map .ok
def e2 (f : Sl → Sl → Option Sl) (a b : EF) : EF := fun ρ => bz (a ρ) fun x => bz (b ρ) fun y => okO (f x y)
theorem okO_ok {o : Option Sl} {s : Sl} (h : okO o = some (.ok s)) : o = some s := by
  cases o with
  | none => cases h
  | some u => cases h; rfl
theorem okO_ex {o : Option Sl} {n : Str} (h : okO o = some (.ex n)) : False := by
  cases o with
  | none => cases h
  | some u => cases h
theorem OK.nx {mg : Str → Option Value} {o : Option Rs} (h : OK K mg H0 W B H σ o Q) (n : Nx B H B' H') : OK K mg H0 W B' H' σ o Q := by
  rcases h with ⟨s, h1, h2⟩ | ⟨m, h1, h2⟩
  · exact .inl ⟨s, h1, h2.nx n⟩
  · exact .inr ⟨m, h1, h2.nx n⟩
/-- the operand is run, then what follows -/
theorem OK.bz {mg : Str → Option Value} {r : Option Rs} {k : Sl → Option Rs} {R : VK} (h : OK K mg H0 W B H σ (PL.bz r k) Q)
    (c : ∀ (x : Sl) (v : V) (B' H' : Hp), Nx B H B' H' → RZ K H0 B' H' v x → OK K mg H0 W B' H' σ (k x) Q → R v H') : OKZ K mg H0 W B H σ r R := by
  cases r with
  | none => rcases h with ⟨s, h1, h2⟩ | ⟨m, h1, h2⟩ <;> cases h1
  | some o =>
    cases o with
    | ok x => exact .inl ⟨x, rfl, fun v B' H' n rz => c (frz x) v B' H' n rz (OK.nx h n)⟩
    | ex m =>
      rcases h with ⟨s, h1, h2⟩ | ⟨m', h1, h2⟩
      · cases h1
      · cases h1; exact .inr ⟨m, rfl, h2⟩
theorem OK.okO {mg : Str → Option Value} {o : Option Sl} (h : OK K mg H0 W B H σ (PL.okO o) Q) : ∃ s, o = some s ∧ KQ K H0 B H s Q := by
  rcases h with ⟨s, h1, h2⟩ | ⟨m, h1, h2⟩
  · exact ⟨s, okO_ok h1, h2⟩
  · exact (okO_ex h1).elim
/-- two operands -/
theorem pd2 {r : R2} {F : Sl → Sl → Option Sl} (ha : PD X H0 W a f) (hb : PD X H0 W b g) (ho : Op2 X H0 r F) (hp : ∀ {ta tb : TE}, PE X a ta → PE X b tb → PE X e (tOp r ta tb)) : PD X H0 W e (e2 F f g) := ⟨peWeak (hp ha.z hb.z) fun σ H Q ⟨B, ρ, E, q⟩ => by
  refine ⟨B, ρ, E, OK.bz q fun x v B1 H1 n1 r1 q1 => ?_⟩
  have E1 := E.nx n1
  refine ⟨B1, ρ, E1, OK.bz q1 fun y w B2 H2 n2 r2 q2 => ?_⟩
  have E2 := E1.nx n2
  obtain ⟨s, h1, h2⟩ := OK.okO q2
  exact ho B2 H2 x y v w s Q E2.e0 E2.eB (r1.mono n2) r2 h1 h2⟩
/-- one operand -/
def Op1 (X : Cx) (H0 : En) (r : V → Hp → VK → Prop) (f : Sl → Option Sl) : Prop := ∀ (B H : Hp) (x : Sl) (v : V) (s : Sl) (Q : VK), Same H0.H H → Same B H → RZ X.K H0 B H v x → f x = some s → KQ X.K H0 B H s Q → r v H Q
def e1 (f : Sl → Option Sl) (a : EF) : EF := fun ρ => PL.bz (a ρ) fun x => PL.okO (f x)
theorem pd1 {r : V → Hp → VK → Prop} {F : Sl → Option Sl} (ha : PD X H0 W a f) (ho : Op1 X H0 r F) (hp : ∀ {ta : TE}, PE X a ta → PE X e (tUn r ta)) : PD X H0 W e (e1 F f) := ⟨peWeak (hp ha.z) fun σ H Q ⟨B, ρ, E, q⟩ => by
  refine ⟨B, ρ, E, OK.bz q fun x v B1 H1 n1 r1 q1 => ?_⟩
  have E1 := E.nx n1
  obtain ⟨s, h1, h2⟩ := OK.okO q1
  exact ho B1 H1 x v s Q E1.e0 E1.eB r1 h1 h2⟩
end
end PL
namespace PL
open PySem PySem.Spec PyProof.Rows L2
section
variable {X : Cx} {pins : List (Addr × Obj)} {σ : L2.St} {H : Hp} {s : Shared}
mutual
theorem Rep.dp {K : PySem.W.Frag} {H : Hp} : ∀ {v : V} {d : PyData}, Rep (LH K H) v d → Dp K H v d
  | _, _, .non => .non
  | _, _, .bl b => .bl b
  | _, _, .int i => .int i
  | _, _, .str x => .str x
  | _, _, .lst e r => .lst e (RepAll.dp r)
  | _, _, .tup e r => .tup e (RepAll.dp r)
theorem RepAll.dp {K : PySem.W.Frag} {H : Hp} : ∀ {vs : List V} {ds : List PyData}, RepAll (LH K H) vs ds → DpAll K H vs ds
  | _, _, .nil => .nil
  | _, _, .cons r rs => .cons (Rep.dp r) (RepAll.dp rs)
end
theorem Rep.reads {d : PyData} {v : V} {u : Value} (I : Inv X pins σ H s) (r : Rep (LH X.K H) v d) (rv : RelV v u) : ∃ as, Reads s.heap u d as := Dp.reads I d v u r.dp rv
theorem RepAll.reads {ds : List PyData} {vs : List V} {us : List Value} (I : Inv X pins σ H s) (r : RepAll (LH X.K H) vs ds) (rv : Vals vs us) : ∃ as, ReadsAll s.heap us ds as := Dp.readsAll I ds vs us r.dp rv
mutual
theorem Rep.plain {L : Addr → HO → Prop} : ∀ {v : V} {d : PyData}, Rep L v d → d.plain = true
  | _, _, .non => rfl
  | _, _, .bl b => rfl
  | _, _, .int i => rfl
  | _, _, .str x => rfl
  | _, _, .lst e r => by simp only [PyData.plain]; exact RepAll.plain r
  | _, _, .tup e r => by simp only [PyData.plain]; exact RepAll.plain r
theorem RepAll.plain {L : Addr → HO → Prop} : ∀ {vs : List V} {ds : List PyData}, RepAll L vs ds → PyData.plainAll ds = true
  | _, _, .nil => rfl
  | _, _, .cons r rs => by simp only [PyData.plainAll, Rep.plain r, RepAll.plain rs, Bool.and_self]
end
end
/-- on data: f gives a scalar; the model's operation gives it too, at any heap where they read so -/
def DOp (X : Cx) (f : Value → Value → Sem Value) (g : PyData → PyData → Option PyData) : Prop :=
  ∀ (s : Shared) (u w : Value) (d e r : PyData) (as bs : List Addr) (Q : Value → Shared → Prop), Reads s.heap u d as → Reads s.heap w e bs → d.plain = true → e.plain = true → g d e = some r → scal r = true →
    (∀ z tk, RelV (vOf r) z → Q z { s with toks := tk }) → wpAny (model X.prog X.w) X.A (f u w) Q X.xe s
def rD (K : PySem.W.Frag) (g : PyData → PyData → Option PyData) : R2 := fun x y H Q => ∃ d e r, Rep (LH K H) x d ∧ Rep (LH K H) y e ∧ g d e = some r ∧ scal r = true ∧ Q (vOf r) H
theorem DOp.op {X : Cx} {f : Value → Value → Sem Value} {g : PyData → PyData → Option PyData} (h : DOp X f g) : OpR X f (rD X.K g) := by
  intro pins s σ H x y v u Q I rx ry ⟨d, e, r, h1, h2, h3, h4, q⟩
  obtain ⟨as, r1⟩ := h1.reads I rx
  obtain ⟨bs, r2⟩ := h2.reads I ry
  exact h s v u d e r as bs _ r1 r2 h1.plain h2.plain h3 h4 fun z tk hz => ⟨_, H, I.tok tk, hz, q⟩
/-- a data function as one on results -/
def fD (g : PyData → PyData → Option PyData) (x y : Sl) : Option Sl :=
  match dat x with
  | some d => match dat y with
    | some e => match g d e with
      | some r => if scal r = true then some (.val true r) else none
      | none => none
    | none => none
  | none => none
section
variable {X : Cx} {H0 : En} {W : WX} {e a b c : Expr} {f g k : EF} {pos : Pos}
theorem KQ.scal {K : PySem.W.Frag} {B H : Hp} {r : PyData} {Q : VK} (h : KQ K H0 B H (.val true r) Q) (e : Same B H) (hs : PL.scal r = true) : Q (vOf r) H := h.same e (Rep.vOf hs)
theorem op2D (g : PyData → PyData → Option PyData) : Op2 X H0 (rD X.K g) (fD g) := by
  intro B H x y v w s Q e0 eB r1 r2 hf hq
  unfold fD at hf
  split at hf
  · rename_i d hd
    split at hf
    · rename_i d' hd'
      split at hf
      · rename_i r hr
        split at hf
        · rename_i hs
          cases hf
          exact ⟨d, d', r, r1.data eB hd, r2.data eB hd', hr, hs, hq.scal eB hs⟩
        · cases hf
      · cases hf
    · cases hf
  · cases hf
theorem pdCmpD {op : CmpOp} {G : PyData → PyData → Option PyData} (h : DOp X (compareOp op) G) (ha : PD X H0 W a f) (hb : PD X H0 W b g) (hm : behindInMarks op b = false) : PD X H0 W (.Compare a [op] [b] pos) (e2 (fD G) f g) := pd2 ha hb (op2D G) fun pa pb => pe_cmpR h.op pa pb hm
end
/-- ints, and nothing else -/
def gI (c : Int → Int → Bool) (h : Int → Int → Int) (d e : PyData) : Option PyData :=
  match d, e with
  | .int i, .int j => if c i j = true then some (.int (h i j)) else none
  | _, _ => none
section
variable {X : Cx}
theorem dopI {f : Value → Value → Sem Value} {c : Int → Int → Bool} {h : Int → Int → Int} {C : Int → Int → Prop} (ho : OpR X f (rI C fun i j => .int (h i j))) (hc : ∀ i j, c i j = true → C i j) : OpR X f (rD X.K (gI c h)) := by
  intro pins s σ H x y v u Q I rx ry ⟨d, e, r, h1, h2, h3, h4, q⟩
  unfold gI at h3
  split at h3
  · rename_i i j
    split at h3
    · rename_i hcc
      cases h3
      exact ho pins s σ H x y v u Q I rx ry ⟨i, j, h1.intV, h2.intV, hc _ _ hcc, q⟩
    · cases h3
  · cases h3
theorem OpR.rI0 {f : Value → Value → Sem Value} {g : Int → Int → V} (h : OpR X f (rI0 g)) : OpR X f (rI (fun _ _ => True) g) := by
  intro pins s σ H x y v u Q I rx ry ⟨i, j, e1, e2, _, q⟩
  exact h pins s σ H x y v u Q I rx ry ⟨i, j, e1, e2, q⟩
end
def cT (_ _ : Int) : Bool := true
/-- what holds, as a Bool that no kernel unfolds -/
noncomputable def cd (p : Prop) : Bool := @decide p (Classical.propDecidable p)
theorem cd_true {p : Prop} (h : p) : cd p = true := @decide_eq_true p (Classical.propDecidable p) h
theorem cd_false {p : Prop} (h : ¬ p) : cd p = false := @decide_eq_false p (Classical.propDecidable p) h
theorem of_cd {p : Prop} (h : cd p = true) : p := @of_decide_eq_true p (Classical.propDecidable p) h
theorem cd_eq (p : Prop) [d : Decidable p] : cd p = decide p := by
  cases d with
  | isTrue h => rw [cd_true h]; rfl
  | isFalse h => rw [cd_false h]; rfl
noncomputable def cMul (i j : Int) : Bool := cd (-(18446744073709551616) < i ∧ i < 18446744073709551616) || cd (-(18446744073709551616) < j ∧ j < 18446744073709551616)
theorem cMul_ok {i j : Int} (h : cMul i j = true) : CMul i j := by
  unfold cMul at h
  rcases Bool.or_eq_true_iff.mp h with h | h
  · exact .inl (by have := of_cd h; simpa using this)
  · exact .inr (by have := of_cd h; simpa using this)
noncomputable def cDiv (_ j : Int) : Bool := cd (0 < j ∧ j < 1073741824)
noncomputable def cMod (_ j : Int) : Bool := cd (0 < j)
noncomputable def cPow (i j : Int) : Bool := cd (0 ≤ j ∧ j ≤ 1000000 ∧ i.natAbs < 18446744073709551616)
noncomputable def cShr (_ j : Int) : Bool := cd (0 ≤ j)
def gSub := gI cT (· - ·)
noncomputable def gDiv := gI cDiv (· / ·)
noncomputable def gMod := gI cMod (· % ·)
noncomputable def gPow := gI cPow fun i j => i ^ j.toNat
noncomputable def gShl := gI cPow fun i j => i * 2 ^ j.toNat
noncomputable def gShr := gI cShr fun i j => i / 2 ^ j.toNat
def gAnd := gI cT Builtin.bitAnd
def gOr := gI cT Builtin.bitOr
section
variable {X : Cx} {H0 : En} {W : WX} {e a b c : Expr} {f g k : EF} {pos : Pos}
theorem pdOpR {op : Operator} {G : PyData → PyData → Option PyData} (h : OpR X (binaryOp op) (rD X.K G)) (ha : PD X H0 W a f) (hb : PD X H0 W b g) : PD X H0 W (.BinOp a op b pos) (e2 (fD G) f g) := pd2 ha hb (op2D G) fun pa pb => pe_op h pa pb
theorem pdSub (ha : PD X H0 W a f) (hb : PD X H0 W b g) : PD X H0 W (.BinOp a .Sub b pos) (e2 (fD gSub) f g) := pdOpR (dopI (PL.OpR.rI0 op_sub) fun _ _ _ => trivial) ha hb
theorem pdDiv (ha : PD X H0 W a f) (hb : PD X H0 W b g) : PD X H0 W (.BinOp a .FloorDiv b pos) (e2 (fD gDiv) f g) := pdOpR (dopI op_fdiv fun _ _ h => by have := of_cd h; exact this) ha hb
theorem pdMod (ha : PD X H0 W a f) (hb : PD X H0 W b g) : PD X H0 W (.BinOp a .Mod b pos) (e2 (fD gMod) f g) := pdOpR (dopI op_mod fun _ _ h => of_cd h) ha hb
theorem pdPow (ha : PD X H0 W a f) (hb : PD X H0 W b g) : PD X H0 W (.BinOp a .Pow b pos) (e2 (fD gPow) f g) := pdOpR (dopI op_pow fun _ _ h => by have := of_cd h; simpa [CPow] using this) ha hb
end
def lstR : Sl → Option (Bool × List PyData)
  | .val fr (.list ds) => some (fr, ds)
  | .bor fr ds => some (fr, ds)
  | .brf (.list ds) => if ds.all scal = true then some (true, ds) else none
  | _ => none
/-- .. scalars are fresh -/
def lstD (x : Sl) : Option (Bool × List PyData) := match lstR x with
  | some (fr, ds) => some (fr || ds.all scal, ds)
  | none => none
def tupD : Sl → Option (Bool × List PyData)
  | .val fr (.tuple ds) => some (fr, ds)
  | .brf (.tuple ds) => if ds.all scal = true then some (true, ds) else none
  | _ => none
theorem RepAll.scal {L L' : Addr → HO → Prop} : ∀ {vs : List V} {ds : List PyData}, RepAll L vs ds → ds.all PL.scal = true → RepAll L' vs ds
  | _, _, .nil, _ => .nil
  | _, _, .cons r rs, h => by
    rw [List.all_cons, Bool.and_eq_true] at h
    exact .cons (r.scal h.1) (RepAll.scal rs h.2)
section
variable {K : PySem.W.Frag} {H0 : En} {B H : Hp} {v : V} {x : Sl} {fr : Bool} {ds : List PyData}
theorem RZ.lstR (e : Same B H) (r : RZ K H0 B H v x) (h : PL.lstR x = some (fr, ds)) : ∃ p vs, v = .ref p ∧ SqL K H p vs ∧ RepAll (LF K H0 B fr) vs ds := by
  cases x with
  | und => cases h
  | own _ _ => cases h
  | full _ => cases h
  | val fr' d =>
    cases d <;> first | cases h | skip
    obtain ⟨p, vs, rfl, h1, h2⟩ := Rep.lstV r
    exact ⟨p, vs, rfl, LF.toH e p _ h1, h2⟩
  | bor fr' ds' =>
    cases h
    obtain ⟨p, vs, rfl, h1, h2⟩ := r
    exact ⟨p, vs, rfl, SqL.of h1, h2⟩
  | exn n => cases h
  | cel k => cases h
  | brf d =>
    cases d <;> first | cases h | skip
    unfold PL.lstR at h
    dsimp only at h
    split at h
    · rename_i hs
      cases h
      obtain ⟨p, vs, rfl, h1, h2⟩ := Rep.lstV r
      exact ⟨p, vs, rfl, SqL.of h1, h2.scal hs⟩
    · cases h
theorem RZ.lst (e : Same B H) (r : RZ K H0 B H v x) (h : lstD x = some (fr, ds)) : ∃ p vs, v = .ref p ∧ SqL K H p vs ∧ RepAll (LF K H0 B fr) vs ds := by
  unfold lstD at h
  split at h
  · rename_i f ds' hl
    cases h
    obtain ⟨p, vs, e1, e2, e3⟩ := RZ.lstR e r hl
    refine ⟨p, vs, e1, e2, ?_⟩
    cases hs : ds.all PL.scal with
    | true => exact e3.scal hs
    | false => rw [Bool.or_false]; exact e3
  · cases h
theorem RZ.tup (e : Same B H) (r : RZ K H0 B H v x) (h : tupD x = some (fr, ds)) : ∃ p vs, v = .ref p ∧ SqT K H p vs ∧ RepAll (LF K H0 B fr) vs ds := by
  cases x with
  | und => cases h
  | own _ _ => cases h
  | full _ => cases h
  | val fr' d =>
    cases d <;> first | cases h | skip
    obtain ⟨p, vs, rfl, h1, h2⟩ := Rep.tupV r
    exact ⟨p, vs, rfl, LF.toH e p _ h1, h2⟩
  | bor fr' ds' => cases h
  | exn n => cases h
  | cel k => cases h
  | brf d =>
    cases d <;> first | cases h | skip
    unfold tupD at h
    dsimp only at h
    split at h
    · rename_i hs
      cases h
      obtain ⟨p, vs, rfl, h1, h2⟩ := Rep.tupV r
      exact ⟨p, vs, rfl, SqT.of h1, h2.scal hs⟩
    · cases h
end
section
variable {X : Cx} {H0 : En}
def rCatS (K : PySem.W.Frag) : R2 := fun x y H Q => ∃ l b xs zs, x = .ref l ∧ y = .ref b ∧ SqL K H l xs ∧ SqL K H b zs ∧ xs.length + zs.length ≤ sizeLine ∧ ∀ p, H p = none → Q (.ref p) (upd H p (.lst (xs ++ zs)))
theorem opCatS : OpR X (binaryOp .Add) (rCatS X.K) := by
  intro pins s σ H x y v u Q I rx ry ⟨l, b, xs, zs, ex, ey, hl, hb, hz, q⟩
  subst ex; subst ey
  cases rx; cases ry
  obtain ⟨i1, v1, ⟨⟨c1, d1, dt1, sl1⟩, n1, g1, k1, k2, k3⟩, _⟩ := I.list hl
  obtain ⟨i2, v2, ⟨⟨c2, d2, dt2, sl2⟩, n2, g2, m1, m2, m3⟩, _⟩ := I.list hb
  dsimp only at k1 k2 k3 m1 m2 m3
  subst k1; subst k2; subst k3; subst m1; subst m2; subst m3
  have z1 := v1.length
  have z2 := v2.length
  have ea : i1.toArray ++ i2.toArray = (i1 ++ i2).toArray := by simp
  refine concat_meets ⟨_, g1, rfl⟩ ⟨_, g2, rfl⟩ noFill_list_add seq_list_add PySem.F.slot_list_add PySem.F.entry_list_add (PySem.F.args_list_add_2 _ _)
    (list_addW l b _ _ n1 n2 _ _ sl1 sl2 (by simp only [List.size_toArray]; omega)) ⟨g1, g2, ?_⟩
  rw [ea]
  refine ⟨.ref _, _, I.lnew (t' := s.toks) (v1.append v2) ?_, rfl, q _ I.fresh⟩
  rw [List.length_append]; omega
def rRepS (K : PySem.W.Frag) : R2 := fun x y H Q => ∃ l k xs, x = .ref l ∧ y = .int k ∧ SqL K H l xs ∧ -(2 ^ 63) ≤ k ∧ k < 2 ^ 63 ∧ xs.length * k.toNat ≤ sizeLine ∧ ∀ p, H p = none → Q (.ref p) (upd H p (.lst (List.replicate k.toNat xs).flatten))
theorem opRepS : OpR X (binaryOp .Mult) (rRepS X.K) := by
  intro pins s σ H x y v u Q I rx ry ⟨l, k, xs, ex, ey, hl, b1, b2, hz, q⟩
  subst ex; subst ey
  cases rx
  obtain ⟨t, et⟩ := ry
  subst et
  obtain ⟨i1, v1, ⟨⟨c1, d1, dt1, sl1⟩, n1, g1, k1, k2, k3⟩, _⟩ := I.list hl
  dsimp only at k1 k2 k3
  subst k1; subst k2; subst k3
  have z1 := v1.length
  have hs : sizeLine = 16777216 := sizeLine_eq
  have hsz : i1.toArray.size * k.toNat ≤ 16777216 := by rw [List.size_toArray, ← z1]; omega
  refine wpAny_binaryOp_repeat_ref (T := "list") (U := "int") (by decide) ⟨_, g1, rfl⟩ (fun s' => typeIs_int s' k t) noFill_list_mul F.fills_int_mul F.slot_int_rmul repeat_list F.slot_int_index.lookup
    (call_meets F.slot_int_rmul (typeIs_int s k t) F.entry_int_rmul (F.args_int_rmul_2 _ _) (lm_int_rmul_list_any k t l i1.toArray n1 none sl1) ⟨g1, rfl, ⟨_, g1, rfl⟩, ?_⟩)
  refine call_meets F.slot_list_mul ⟨_, g1, rfl⟩ F.entry_list_mul (F.args_list_mul_2 _ _) (lm_list_mul_any l i1.toArray n1 none sl1 k t (by simp [Builtin.List.listFitsIndex]; omega) (by omega) (by simp [Builtin.List.listTooLong, sizeLine]; omega)) ⟨g1, ?_⟩
  rw [listMul_foldl_if]
  refine ⟨.ref _, _, I.lnew (t' := s.toks) (v1.rep k.toNat) ?_, rfl, q _ I.fresh⟩
  rw [lm_len_rep_flat, Nat.mul_comm]; exact hz
/-- + of ints, texts, lists -/
def gAddS (d e : PyData) : Option PyData :=
  match d, e with
  | .int i, .int j => some (.int (i + j))
  | .str x, .str y => if x.length + y.length ≤ 16777216 then some (.str (x ++ y)) else none
  | _, _ => none
def catT (x y : Sl) : Option (Bool × Bool × List PyData × List PyData) := match x, y with
  | .val f1 (.tuple d1), .val f2 (.tuple d2) => if (!d1.isEmpty && !d2.isEmpty && decide (d1.length + d2.length ≤ 16777216)) = true then some (f1, f2, d1, d2) else none
  | _, _ => none
def fAdd (x y : Sl) : Option Sl :=
  match lstD x with
  | some (f1, d1) => match lstD y with
    | some (f2, d2) => if d1.length + d2.length ≤ 16777216 then some (.own (f1 && f2) (d1 ++ d2)) else none
    | none => none
  | none => match catT x y with
    | some (f1, f2, d1, d2) => some (.val (f1 && f2) (.tuple (d1 ++ d2)))
    | none => fD gAddS x y
def rAddS (K : PySem.W.Frag) : R2 := fun x y H Q => rCatS K x y H Q ∨ rCatA K x y H Q ∨ rD K gAddS x y H Q
theorem opAddS : OpR X (binaryOp .Add) (rAddS X.K) := by
  refine opCatS.or (op_catA.or ?_)
  intro pins s σ H x y v u Q I rx ry ⟨d, e, r, h1, h2, h3, h4, q⟩
  unfold gAddS at h3
  split at h3
  · cases h3
    exact op_add pins s σ H x y v u Q I rx ry ⟨_, _, h1.intV, h2.intV, q⟩
  · split at h3
    · cases h3
      rename_i hz
      exact op_add_str pins s σ H x y v u Q I rx ry ⟨_, _, h1.strV, h2.strV, by rw [sizeLine_eq]; exact hz, q⟩
    · cases h3
  · cases h3
theorem op2Add : Op2 X H0 (rAddS X.K) fAdd := by
  intro B H x y v w s Q e0 eB r1 r2 hf hq
  unfold fAdd at hf
  split at hf
  · rename_i f1 d1 h1
    split at hf
    · rename_i f2 d2 h2
      split at hf
      · rename_i hz
        cases hf
        obtain ⟨p, vs, rfl, s1, a1⟩ := r1.lst eB h1
        obtain ⟨p2, ws, rfl, s2, a2⟩ := r2.lst eB h2
        refine .inl ⟨p, p2, vs, ws, rfl, rfl, s1, s2, by rw [a1.length, a2.length, sizeLine_eq]; exact hz, fun q hp => ?_⟩
        exact hq.new eB ((a1.mono LF.and1).append (a2.mono LF.and2)) hp
      · cases hf
    · cases hf
  · split at hf
    · rename_i f1 f2 d1 d2 hc
      cases hf
      unfold catT at hc
      split at hc
      · split at hc
        · rename_i hz
          cases hc
          simp only [Bool.and_eq_true, Bool.not_eq_true', decide_eq_true_eq] at hz
          obtain ⟨p, vs, rfl, s1, a1⟩ := r1.tup eB rfl
          obtain ⟨p2, ws, rfl, s2, a2⟩ := r2.tup eB rfl
          have n1 : vs ≠ [] := fun z => by subst z; have := a1.length; rw [List.length_nil] at this; rw [List.length_eq_zero_iff.mp this.symm] at hz; exact absurd hz.1.1 (by decide)
          have n2 : ws ≠ [] := fun z => by subst z; have := a2.length; rw [List.length_nil] at this; rw [List.length_eq_zero_iff.mp this.symm] at hz; exact absurd hz.1.2 (by decide)
          exact .inr (.inl ⟨p, p2, vs, ws, rfl, rfl, s1, s2, by rw [a1.length, a2.length, sizeLine_eq]; exact hz.2, fun z => absurd z n1, fun _ z => absurd z n2, fun _ _ q hp => hq.tup e0 eB ((a1.mono LF.and1).append (a2.mono LF.and2)) hp⟩)
        · cases hc
      · cases hc
    · exact .inr (.inr (op2D gAddS B H x y v w s Q e0 eB r1 r2 hf hq))
noncomputable def gMulS := gI cMul (· * ·)
noncomputable def fMul (x y : Sl) : Option Sl :=
  match lstD x with
  | some (f1, d1) => match dat y with
    | some (.int k) => if cd (-(9223372036854775808) ≤ k ∧ k < 9223372036854775808 ∧ d1.length * k.toNat ≤ 16777216) = true then some (.own f1 (List.replicate k.toNat d1).flatten) else none
    | _ => none
  | none => fD gMulS x y
def rMulS (K : PySem.W.Frag) : R2 := fun x y H Q => rRepS K x y H Q ∨ rD K gMulS x y H Q
theorem opMulS : OpR X (binaryOp .Mult) (rMulS X.K) := opRepS.or (dopI op_mul fun _ _ h => cMul_ok h)
theorem op2Mul : Op2 X H0 (rMulS X.K) fMul := by
  intro B H x y v w s Q e0 eB r1 r2 hf hq
  unfold fMul at hf
  split at hf
  · rename_i f1 d1 h1
    split at hf
    · rename_i k h2
      split at hf
      · rename_i hz
        cases hf
        obtain ⟨p, vs, rfl, s1, a1⟩ := r1.lst eB h1
        have hk := (r2.data eB h2).intV
        have hz := of_cd hz
        refine .inl ⟨p, k, vs, rfl, hk, s1, by simpa using hz.1, by simpa using hz.2.1, by rw [a1.length, sizeLine_eq]; exact hz.2.2, fun q hp => ?_⟩
        exact hq.new eB (a1.rep k.toNat) hp
      · cases hf
    · cases hf
  · exact .inr (op2D gMulS B H x y v w s Q e0 eB r1 r2 hf hq)
end
section
variable {X : Cx} {H0 : En} {W : WX} {e a b c : Expr} {f g k : EF} {pos : Pos}
theorem pdAdd (ha : PD X H0 W a f) (hb : PD X H0 W b g) : PD X H0 W (.BinOp a .Add b pos) (e2 fAdd f g) := pd2 ha hb op2Add fun pa pb => pe_op opAddS pa pb
theorem pdMul (ha : PD X H0 W a f) (hb : PD X H0 W b g) : PD X H0 W (.BinOp a .Mult b pos) (e2 fMul f g) := pd2 ha hb op2Mul fun pa pb => pe_op opMulS pa pb
/-- -a -/
def fNeg (x : Sl) : Option Sl := match dat x with | some (.int i) => some (.val true (.int (-i))) | _ => none
theorem pdNeg (ha : PD X H0 W a f) : PD X H0 W (.UnaryOp .USub a pos) (e1 fNeg f) := pd1 ha (fun B H x v s Q e0 eB r hf hq => by
  unfold fNeg at hf
  split at hf
  · rename_i i hi
    cases hf
    exact ⟨i, (r.data eB hi).intV, hq.int eB⟩
  · cases hf) fun pa => pe_un un_neg pa
end
noncomputable def gEq (d e : PyData) : Option PyData :=
  match d, e with
  | .int i, .int j => some (.bool (cd (i = j)))
  | d, e => if d.depth ≤ 60 then some (.bool (PyData.eqv d e)) else none
noncomputable def gNe (d e : PyData) : Option PyData :=
  match d, e with
  | .int i, .int j => some (.bool (!cd (i = j)))
  | d, e => if d.depth ≤ 60 then some (.bool (!PyData.eqv d e)) else none
/-- an order: of ints; of alike data -/
def gOrd (p : Int → Int → Bool) (q : PyData → PyData → Bool) (d e : PyData) : Option PyData :=
  match d, e with
  | .int i, .int j => some (.bool (p i j))
  | .none, _ => none
  | d, e => if PySem.W.alike d e = true ∧ d.depth ≤ 60 then some (.bool (q d e)) else none
noncomputable def gLt := gOrd (fun i j => cd (i < j)) fun d e => PySem.W.dataLt d e
noncomputable def gLe := gOrd (fun i j => cd (i ≤ j)) fun d e => !PySem.W.dataLt e d
noncomputable def gGt := gOrd (fun i j => cd (j < i)) fun d e => PySem.W.dataLt e d
noncomputable def gGe := gOrd (fun i j => cd (j ≤ i)) fun d e => !PySem.W.dataLt d e
def gIs (neg : Bool) (d e : PyData) : Option PyData :=
  match d, e with
  | .bool a, .bool b => some (.bool (neg ^^ decide (a = b)))
  | .none, .none => some (.bool (!neg))
  | _, .none => some (.bool neg)
  | _, _ => none
section
variable {X : Cx} {k : Nat}
theorem room60 (hr : X.A.units + 64 < cLine) {d e : PyData} (h : d.depth ≤ 60) : X.A.units + min d.depth e.depth < cLine := by
  have := hr
  have h2 : min d.depth e.depth ≤ d.depth := Nat.min_le_left _ _
  omega
theorem dopEq (hr : X.A.units + 64 < cLine) : DOp X (compareOp .Eq) gEq := by
  intro s u w d e r as bs Q r1 r2 p1 p2 hg hs q
  unfold gEq at hg
  split at hg
  · cases hg
    cases r1; cases r2
    exact eq_int (by have := q _ s.toks rfl; rw [cd_eq] at this; rw [Bool.beq_eq_decide_eq]; exact this)
  · split at hg
    · rename_i hd
      cases hg
      exact SeqAt.eq_plain r1 r2 p1 p2 (room60 hr hd) (q _ s.toks rfl)
    · cases hg
theorem dopNe (hr : X.A.units + 64 < cLine) : DOp X (compareOp .NotEq) gNe := by
  intro s u w d e r as bs Q r1 r2 p1 p2 hg hs q
  unfold gNe at hg
  split at hg
  · cases hg
    cases r1; cases r2
    exact ne_int (by have := q _ s.toks rfl; rw [cd_eq] at this; rw [bne, Bool.beq_eq_decide_eq]; exact this)
  · split at hg
    · rename_i hd
      cases hg
      exact SeqAt.ne_plain r1 r2 p1 p2 (room60 hr hd) (q _ s.toks rfl)
    · cases hg
theorem dopLt (hr : X.A.units + 64 < cLine) : DOp X (compareOp .Lt) gLt := by
  intro s u w d e r as bs Q r1 r2 p1 p2 hg hs q
  unfold gLt gOrd at hg
  split at hg
  · cases hg
    cases r1; cases r2
    exact lt_int (by have := q _ s.toks rfl; dsimp only at this; rw [cd_eq] at this; exact this)
  · cases hg
  · split at hg
    · rename_i hd
      cases hg
      exact PySem.W.lt_data r1 r2 hd.1 (by assumption) (room60 hr hd.2) (q _ s.toks rfl)
    · cases hg
theorem dopGt (hr : X.A.units + 64 < cLine) : DOp X (compareOp .Gt) gGt := by
  intro s u w d e r as bs Q r1 r2 p1 p2 hg hs q
  unfold gGt gOrd at hg
  split at hg
  · cases hg
    cases r1; cases r2
    exact gt_int (by have := q _ s.toks rfl; dsimp only at this; rw [cd_eq] at this; exact this)
  · cases hg
  · split at hg
    · rename_i hd
      cases hg
      exact PySem.W.gt_data r1 r2 hd.1 (by assumption) (room60 hr hd.2) (q _ s.toks rfl)
    · cases hg
theorem dopGe (hr : X.A.units + 64 < cLine) : DOp X (compareOp .GtE) gGe := by
  intro s u w d e r as bs Q r1 r2 p1 p2 hg hs q
  unfold gGe gOrd at hg
  split at hg
  · cases hg
    cases r1; cases r2
    exact ge_int (by have := q _ s.toks rfl; dsimp only at this; rw [cd_eq] at this; exact this)
  · cases hg
  · split at hg
    · rename_i hd
      cases hg
      exact PySem.W.ge_data r1 r2 hd.1 (by assumption) (room60 hr hd.2) (q _ s.toks rfl)
    · cases hg
theorem Rep.non_iff {L : Addr → HO → Prop} {v : V} {d : PyData} (r : Rep L v d) : (v = .non) ↔ (d = .none) := by
  cases r <;> simp
theorem opIsNot : OpR X (compareOp .IsNot) (rD X.K (gIs true)) := by
  intro pins s σ H x y v u Q I rx ry ⟨d, e, r, h1, h2, h3, h4, q⟩
  unfold gIs at h3
  split at h3
  · cases h3
    exact op_notBl pins s σ H x y v u Q I rx ry ⟨_, _, h1.blV, h2.blV, by simpa [vOf] using q⟩
  · cases h3
    refine op_notN pins s σ H x y v u Q I rx ry ⟨h2.nonV, ?_⟩
    rw [h1.nonV]; simpa [vOf] using q
  · rename_i hn
    cases h3
    refine op_notN pins s σ H x y v u Q I rx ry ⟨h2.nonV, ?_⟩
    rw [decide_eq_false (fun z => hn (h1.non_iff.mp z))]; simpa [vOf] using q
  · cases h3
end
section
variable {X : Cx} {H0 : En} {W : WX} {e a b c : Expr} {f g : EF} {pos : Pos} {k : Nat}
theorem pdEq (hr : X.A.units + 64 < cLine) (ha : PD X H0 W a f) (hb : PD X H0 W b g) : PD X H0 W (.Compare a [.Eq] [b] pos) (e2 (fD gEq) f g) := pdCmpD (dopEq hr) ha hb (nomark _)
theorem pdGe (hr : X.A.units + 64 < cLine) (ha : PD X H0 W a f) (hb : PD X H0 W b g) : PD X H0 W (.Compare a [.GtE] [b] pos) (e2 (fD gGe) f g) := pdCmpD (dopGe hr) ha hb (nomark _)
end
end PL
namespace PL
open PySem PySem.Spec PyProof.Rows L2
inductive Rb where
  | ok (b : Bool)
  | ex (n : Str)
abbrev BF := Ev → Option Rb
def OKB (K : PySem.W.Frag) (mg : Str → Option Value) (W : WX) (B H : Hp) (σ : L2.St) (o : Option Rb) (Q : Bool → Hp → Prop) : Prop :=
  (∃ b, o = some (.ok b) ∧ ∀ B' H', Nx B H B' H' → Q b H') ∨ ∃ n, o = some (.ex n) ∧ KX mg B H σ W n
def tT (K : PySem.W.Frag) (mg : Str → Option Value) (H0 : En) (W : WX) (f : BF) : TT := fun σ H Q => ∃ B ρ, ER K H0 B H σ ρ ∧ OKB K mg W B H σ (f ρ) Q
structure PB (X : Cx) (H0 : En) (W : WX) (e : Expr) (f : BF) : Prop where
  pt : PT X e (tT X.K X.mg H0 W f)
structure PBw (X : Cx) (H0 : En) (W : WX) (e : Expr) (f : BF) : Prop where
  pw : PW X e (tT X.K X.mg H0 W f)
def truth : PyData → Option Bool
  | .none => some false
  | .bool b => some b
  | .int i => some (i != 0)
  | .str x => if x.length ≤ 16777216 then some (x.length != 0) else none
  | .list xs => some (!xs.isEmpty)
  | .tuple xs => some (!xs.isEmpty)
  | .dict _ => none
def okB (o : Option Bool) : Option Rb := o.map .ok
/-- an expression's result as a test -/
def tOf (f : EF) : BF := fun ρ =>
  match f ρ with
  | some (.ok s) => match dat (frz s) with
    | some d => okB (truth d)
    | none => none
  | some (.ex n) => some (.ex n)
  | none => none
section
variable {X : Cx} {H0 : En} {W : WX} {e a b c : Expr} {f g k : EF} {pos : Pos} {K : PySem.W.Frag} {B H B' H' : Hp} {σ : L2.St} {mg : Str → Option Value}
theorem okB_ok {o : Option Bool} {b : Bool} (h : okB o = some (.ok b)) : o = some b := by
  cases o with
  | none => cases h
  | some u => cases h; rfl
theorem okB_ex {o : Option Bool} {n : Str} (h : okB o = some (.ex n)) : False := by
  cases o with
  | none => cases h
  | some u => cases h
theorem OKB.nx {o : Option Rb} {Q : Bool → Hp → Prop} (h : OKB K mg W B H σ o Q) (n : Nx B H B' H') : OKB K mg W B' H' σ o Q := by
  rcases h with ⟨s, h1, h2⟩ | ⟨m, h1, h2⟩
  · exact .inl ⟨s, h1, fun B2 H2 n2 => h2 B2 H2 (n.trans n2)⟩
  · exact .inr ⟨m, h1, h2.nx n⟩
theorem tof_ok {ρ : Ev} {r : Option Rs} {Q : Bool → Hp → Prop} {R : VK} (hr : f ρ = r) (h : OKB K mg W B H σ (tOf f ρ) Q)
    (c : ∀ (x : Sl) (d : PyData) (b : Bool) (v : V) (B' H' : Hp), Nx B H B' H' → RZ K H0 B' H' v x → dat x = some d → truth d = some b → Q b H' → R v H') : OKZ K mg H0 W B H σ r R := by
  subst hr
  unfold tOf at h
  cases q : f ρ with
  | none => rw [q] at h; rcases h with ⟨s, h1, h2⟩ | ⟨m, h1, h2⟩ <;> cases h1
  | some o =>
    rw [q] at h
    cases o with
    | ex m =>
      rcases h with ⟨s, h1, h2⟩ | ⟨m', h1, h2⟩
      · cases h1
      · cases h1; exact .inr ⟨m, rfl, h2⟩
    | ok x =>
      refine .inl ⟨x, rfl, fun v B' H' n rz => ?_⟩
      dsimp only at h
      cases qd : dat (frz x) with
      | none => rw [qd] at h; rcases h with ⟨s, h1, h2⟩ | ⟨m, h1, h2⟩ <;> cases h1
      | some d =>
        rw [qd] at h
        rcases h with ⟨b, h1, h2⟩ | ⟨m, h1, h2⟩
        · exact c (frz x) d b v B' H' n rz qd (okB_ok h1) (h2 B' H' n)
        · exact (okB_ex h1).elim
theorem truth_ok {v : V} {d : PyData} {b : Bool} (r : Rep (LH K H) v d) (h : truth d = some b) : TruV K v H b := by
  cases r with
  | non => cases h; rfl
  | bl _ => cases h; rfl
  | int _ => cases h; rfl
  | str x =>
    unfold truth at h
    dsimp only at h
    split at h
    · rename_i hz
      cases h
      refine ⟨by rw [sizeLine_eq]; exact hz, ?_⟩
      by_cases e : x.length = 0
      · rw [e]; rfl
      · have h2 : (x.length : Int) ≠ 0 := by omega
        rw [bne_iff_ne.mpr e, bne_iff_ne.mpr h2]
    · cases h
  | lst e r => cases h; exact .inl ⟨_, e, by have := r.length; rename_i xs ds; cases xs <;> cases ds <;> simp_all⟩
  | tup e r => cases h; exact .inr (.inl ⟨_, e, by have := r.length; rename_i xs ds; cases xs <;> cases ds <;> simp_all⟩)
/-- a name, a call, a subscript .. as a test -/
theorem pbTruth (h : PD X H0 W e f) (he : ∀ whole, isTrue e X.env whole = (do let v ← whole; standAt e.pos; holding [v] (truthy v)) := by intro _; rfl) : PB X H0 W e (tOf f) :=
  ⟨ptWeak (pt_truth h.z he) fun σ H Q ⟨B, ρ, E, q⟩ => ⟨B, ρ, E, tof_ok rfl q fun x d b v B' H' n rz hd ht hq => ⟨b, truth_ok (rz.data n.bh hd) ht, hq⟩⟩⟩
/-- a result that is a bool, as a test -/
def bOf (f : EF) : BF := fun ρ =>
  match f ρ with
  | some (.ok (.val _ (.bool b))) => some (.ok b)
  | some (.ex n) => some (.ex n)
  | _ => none
theorem bof_ok {ρ : Ev} {Q : Bool → Hp → Prop} (h : OKB K mg W B H σ (bOf f ρ) Q) : OK K mg H0 W B H σ (f ρ) fun v H' => ∃ b, v = .bl b ∧ Q b H' := by
  unfold bOf at h
  split at h
  · rename_i fr b hb
    rcases h with ⟨s, h1, h2⟩ | ⟨m, h1, h2⟩
    · cases h1
      exact .inl ⟨_, hb, fun v B' H' T n t r => ⟨b, Rep.blV r, h2 B' H' n⟩⟩
    · cases h1
  · rename_i n hn
    rcases h with ⟨s, h1, h2⟩ | ⟨m, h1, h2⟩
    · cases h1
    · cases h1; exact .inr ⟨n, hn, h2⟩
  · rcases h with ⟨s, h1, h2⟩ | ⟨m, h1, h2⟩ <;> cases h1
theorem pd2core {r : R2} {F : Sl → Sl → Option Sl} (ho : Op2 X H0 r F) {ρ : Ev} {Q : VK} (E : ER X.K H0 B H σ ρ) (q : OK X.K X.mg H0 W B H σ (e2 F f g ρ) Q) : tOp r (tZ X.K X.mg H0 W f) (tZ X.K X.mg H0 W g) σ H Q := by
  refine ⟨B, ρ, E, OK.bz q fun x v B1 H1 n1 r1 q1 => ?_⟩
  have E1 := E.nx n1
  refine ⟨B1, ρ, E1, OK.bz q1 fun y w B2 H2 n2 r2 q2 => ?_⟩
  have E2 := E1.nx n2
  obtain ⟨s, h1, h2⟩ := OK.okO q2
  exact ho B2 H2 x y v w s Q E2.e0 E2.eB (r1.mono n2) r2 h1 h2
/-- a comparison as a test -/
theorem pbCmp {op : CmpOp} {G : PyData → PyData → Option PyData} (h : OpR X (compareOp op) (rD X.K G)) (ha : PD X H0 W a f) (hb : PD X H0 W b g) (hm : behindInMarks op b = false) : PB X H0 W (.Compare a [op] [b] pos) (bOf (e2 (fD G) f g)) :=
  ⟨ptWeak (pt_cmpR h ha.z hb.z hm) fun σ H Q ⟨B, ρ, E, q⟩ => pd2core (op2D G) E (bof_ok q)⟩
theorem pbEq (hr : X.A.units + 64 < cLine) (ha : PD X H0 W a f) (hb : PD X H0 W b g) : PB X H0 W (.Compare a [.Eq] [b] pos) (bOf (e2 (fD gEq) f g)) := pbCmp (dopEq hr).op ha hb (nomark _)
theorem pbNe (hr : X.A.units + 64 < cLine) (ha : PD X H0 W a f) (hb : PD X H0 W b g) : PB X H0 W (.Compare a [.NotEq] [b] pos) (bOf (e2 (fD gNe) f g)) := pbCmp (dopNe hr).op ha hb (nomark _)
theorem pbLt (hr : X.A.units + 64 < cLine) (ha : PD X H0 W a f) (hb : PD X H0 W b g) : PB X H0 W (.Compare a [.Lt] [b] pos) (bOf (e2 (fD gLt) f g)) := pbCmp (dopLt hr).op ha hb (nomark _)
theorem pbGt (hr : X.A.units + 64 < cLine) (ha : PD X H0 W a f) (hb : PD X H0 W b g) : PB X H0 W (.Compare a [.Gt] [b] pos) (bOf (e2 (fD gGt) f g)) := pbCmp (dopGt hr).op ha hb (nomark _)
theorem pbIsNot (ha : PD X H0 W a f) (hb : PD X H0 W b g) : PB X H0 W (.Compare a [.IsNot] [b] pos) (bOf (e2 (fD (gIs true)) f g)) := pbCmp opIsNot ha hb (nomark _)
def bNot (f : BF) : BF := fun ρ => match f ρ with | some (.ok b) => some (.ok (!b)) | r => r
def bAnd (f g : BF) : BF := fun ρ => match f ρ with | some (.ok true) => g ρ | r => r
def bOr (f g : BF) : BF := fun ρ => match f ρ with | some (.ok false) => g ρ | r => r
theorem pbNot {f : BF} (h : PB X H0 W a f) : PB X H0 W (.UnaryOp .Not a pos) (bNot f) := ⟨ptWeak (pt_not h.pt) fun σ H Q ⟨B, ρ, E, q⟩ => ⟨B, ρ, E, by
  unfold bNot at q
  cases r : f ρ with
  | none => rw [r] at q; rcases q with ⟨s, h1, h2⟩ | ⟨m, h1, h2⟩ <;> cases h1
  | some o =>
    rw [r] at q
    cases o with
    | ok b =>
      rcases q with ⟨s, h1, h2⟩ | ⟨m, h1, h2⟩
      · cases h1; exact .inl ⟨b, rfl, h2⟩
      · cases h1
    | ex n =>
      rcases q with ⟨s, h1, h2⟩ | ⟨m, h1, h2⟩
      · cases h1
      · cases h1; exact .inr ⟨n, rfl, h2⟩⟩⟩
theorem PBw.pb {f : BF} (h : PBw X H0 W e f) : PB X H0 W e f := ⟨h.pw.pt⟩
theorem pbAnd1 {f : BF} (h : PB X H0 W a f) : PBw X H0 W (.BoolOp .And [a] pos) f := ⟨pw_and1 h.pt⟩
theorem pbOr1 {f : BF} (h : PB X H0 W a f) : PBw X H0 W (.BoolOp .Or [a] pos) f := ⟨pw_or1 h.pt⟩
theorem pwWeak {t t' : TT} (h : PW X e t) (i : ∀ σ H Q, t' σ H Q → t σ H Q) : PW X e t' := ⟨fun w pins s σ H Q I q => h.run w pins s σ H Q I (i σ H Q q)⟩
theorem pbAnd {f g : BF} {rest : List Expr} (ha : PB X H0 W a f) (hb : PBw X H0 W (.BoolOp .And (b :: rest) pos) g) : PBw X H0 W (.BoolOp .And (a :: b :: rest) pos) (bAnd f g) := ⟨pwWeak (pw_and ha.pt hb.pw) fun σ H Q ⟨B, ρ, E, q⟩ => ⟨B, ρ, E, by
  unfold bAnd at q
  cases r : f ρ with
  | none => rw [r] at q; rcases q with ⟨s, h1, h2⟩ | ⟨m, h1, h2⟩ <;> cases h1
  | some o =>
    rw [r] at q
    cases o with
    | ok b =>
      cases b with
      | true => exact .inl ⟨true, rfl, fun B' H' n => ⟨B', ρ, E.nx n, q.nx n⟩⟩
      | false =>
        rcases q with ⟨s, h1, h2⟩ | ⟨m, h1, h2⟩
        · cases h1; exact .inl ⟨false, rfl, h2⟩
        · cases h1
    | ex n =>
      rcases q with ⟨s, h1, h2⟩ | ⟨m, h1, h2⟩
      · cases h1
      · cases h1; exact .inr ⟨n, rfl, h2⟩⟩⟩
theorem pbOr {f g : BF} {rest : List Expr} (ha : PB X H0 W a f) (hb : PBw X H0 W (.BoolOp .Or (b :: rest) pos) g) : PBw X H0 W (.BoolOp .Or (a :: b :: rest) pos) (bOr f g) := ⟨pwWeak (pw_or ha.pt hb.pw) fun σ H Q ⟨B, ρ, E, q⟩ => ⟨B, ρ, E, by
  unfold bOr at q
  cases r : f ρ with
  | none => rw [r] at q; rcases q with ⟨s, h1, h2⟩ | ⟨m, h1, h2⟩ <;> cases h1
  | some o =>
    rw [r] at q
    cases o with
    | ok b =>
      cases b with
      | false => exact .inl ⟨false, rfl, fun B' H' n => ⟨B', ρ, E.nx n, q.nx n⟩⟩
      | true =>
        rcases q with ⟨s, h1, h2⟩ | ⟨m, h1, h2⟩
        · cases h1; exact .inl ⟨true, rfl, h2⟩
        · cases h1
    | ex n =>
      rcases q with ⟨s, h1, h2⟩ | ⟨m, h1, h2⟩
      · cases h1
      · cases h1; exact .inr ⟨n, rfl, h2⟩⟩⟩
/-- and, or of bools as values -/
def eAnd (f g : EF) : EF := fun ρ => PL.bz (f ρ) fun x => match dat x with
  | some (.bool true) => g ρ
  | some (.bool false) => some (.ok (.val true (.bool false)))
  | _ => none
def eOr (f g : EF) : EF := fun ρ => PL.bz (f ρ) fun x => match dat x with
  | some (.bool false) => g ρ
  | some (.bool true) => some (.ok (.val true (.bool true)))
  | _ => none
theorem okNone {Q : VK} (h : OK K mg H0 W B H σ none Q) : False := by rcases h with ⟨s, h1, h2⟩ | ⟨m, h1, h2⟩ <;> cases h1
theorem pdOne {op : BoolOp} (h : PD X H0 W a f) : PD X H0 W (.BoolOp op [a] pos) f := ⟨pe_one h.pe⟩
theorem pdAndV {rest : List Expr} (ha : PD X H0 W a f) (hb : PD X H0 W (.BoolOp .And (b :: rest) pos) g) : PD X H0 W (.BoolOp .And (a :: b :: rest) pos) (eAnd f g) := ⟨peWeak (pe_and ha.z hb.pe) fun σ H Q ⟨B, ρ, E, q⟩ => ⟨B, ρ, E, OK.bz q fun x v B1 H1 n1 r1 q1 => by
  split at q1
  · rename_i hd
    exact ⟨true, (r1.data n1.bh hd).blV, by rw [if_pos rfl]; exact ⟨B1, ρ, E.nx n1, q1⟩⟩
  · rename_i hd
    refine ⟨false, (r1.data n1.bh hd).blV, ?_⟩
    rw [if_neg Bool.false_ne_true]
    rcases q1 with ⟨s, h1, h2⟩ | ⟨m, h1, h2⟩
    · cases h1; exact h2.bl n1.bh
    · cases h1
  · exact (okNone q1).elim⟩⟩
def eNot (f : EF) : EF := fun ρ => PL.bz (f ρ) fun x => match dat x with
  | some (.bool b) => some (.ok (.val true (.bool (!b))))
  | _ => none
theorem pdNot (ha : PD X H0 W a f) : PD X H0 W (.UnaryOp .Not a pos) (eNot f) := ⟨peWeak (pe_not ha.z) fun σ H Q ⟨B, ρ, E, q⟩ => ⟨B, ρ, E, OK.bz q fun x v B1 H1 n1 r1 q1 => by
  split at q1
  · rename_i b hd
    refine ⟨b, (r1.data n1.bh hd).blV, ?_⟩
    rcases q1 with ⟨s, h1, h2⟩ | ⟨m, h1, h2⟩
    · cases h1; exact h2.bl n1.bh
    · cases h1
  · exact (okNone q1).elim⟩⟩
def eIf (t : BF) (f g : EF) : EF := fun ρ => match t ρ with
  | some (.ok true) => f ρ
  | some (.ok false) => g ρ
  | some (.ex n) => some (.ex n)
  | none => none
theorem pdIf {t : BF} (hc : PB X H0 W c t) (ha : PD X H0 W a f) (hb : PD X H0 W b g) : PD X H0 W (.IfExp c a b pos) (eIf t f g) := ⟨peWeak (pe_ifExp hc.pt ha.pe hb.pe) fun σ H Q ⟨B, ρ, E, q⟩ => ⟨B, ρ, E, by
  unfold eIf at q
  cases r : t ρ with
  | none => rw [r] at q; exact (okNone q).elim
  | some o =>
    rw [r] at q
    cases o with
    | ok b =>
      refine .inl ⟨b, rfl, fun B' H' n => ?_⟩
      cases b with
      | true => rw [if_pos rfl]; exact ⟨B', ρ, E.nx n, q.nx n⟩
      | false => rw [if_neg Bool.false_ne_true]; exact ⟨B', ρ, E.nx n, q.nx n⟩
    | ex n =>
      rcases q with ⟨s, h1, h2⟩ | ⟨m, h1, h2⟩
      · cases h1
      · cases h1; exact .inr ⟨n, rfl, h2⟩⟩⟩
/-- a op b op' c -/
def eChain (G G' : PyData → PyData → Option PyData) (f g k : EF) : EF := fun ρ => PL.bz (f ρ) fun x => PL.bz (g ρ) fun y => match fD G x y with
  | some (.val _ (.bool true)) => PL.bz (k ρ) fun z => okO (fD G' y z)
  | some (.val _ (.bool false)) => some (.ok (.val true (.bool false)))
  | _ => none
theorem fD_some {G : PyData → PyData → Option PyData} {x y s : Sl} (h : fD G x y = some s) : ∃ d e r, dat x = some d ∧ dat y = some e ∧ G d e = some r ∧ PL.scal r = true ∧ s = .val true r := by
  unfold fD at h
  split at h
  · rename_i d hd
    split at h
    · rename_i d' hd'
      split at h
      · rename_i r hr
        split at h
        · rename_i hs
          cases h
          exact ⟨d, d', r, hd, hd', hr, hs, rfl⟩
        · cases h
      · cases h
    · cases h
  · cases h
end
inductive Ra where
  | ok (ss : List Sl)
  | ex (n : Str)
def evs : List EF → Ev → Option Ra
  | [], _ => some (.ok [])
  | f :: fs, ρ => match f ρ with
    | some (.ok s) => match evs fs ρ with
      | some (.ok ss) => some (.ok (frz s :: ss))
      | r => r
    | some (.ex n) => some (.ex n)
    | none => none
inductive RZs (K : PySem.W.Frag) (H0 : En) (B H : Hp) : List V → List Sl → Prop
  | nil : RZs K H0 B H [] []
  | cons {v : V} {vs : List V} {s : Sl} {ss : List Sl} : RZ K H0 B H v s → RZs K H0 B H vs ss → RZs K H0 B H (v :: vs) (s :: ss)
theorem RZs.mono {K : PySem.W.Frag} {H0 : En} {B H B' H' : Hp} (n : Nx B H B' H') : ∀ {vs : List V} {ss : List Sl}, RZs K H0 B H vs ss → RZs K H0 B' H' vs ss
  | _, _, .nil => .nil
  | _, _, .cons r rs => .cons (r.mono n) (RZs.mono n rs)
def OKA (K : PySem.W.Frag) (mg : Str → Option Value) (H0 : En) (W : WX) (B H : Hp) (σ : L2.St) (o : Option Ra) (Q : List V → Hp → Prop) : Prop :=
  (∃ ss, o = some (.ok ss) ∧ ∀ vs B' H', Nx B H B' H' → RZs K H0 B' H' vs ss → Q vs H') ∨ ∃ n, o = some (.ex n) ∧ KX mg B H σ W n
def tAs (K : PySem.W.Frag) (mg : Str → Option Value) (H0 : En) (W : WX) (fs : List EF) : TA := fun σ H Q => ∃ B ρ, ER K H0 B H σ ρ ∧ OKA K mg H0 W B H σ (evs fs ρ) Q
structure PDs (X : Cx) (H0 : En) (W : WX) (es : List Expr) (fs : List EF) : Prop where
  pa : PA X es (tAs X.K X.mg H0 W fs)
section
variable {X : Cx} {H0 : En} {W : WX} {e a b c : Expr} {es : List Expr} {f g k : EF} {fs : List EF} {pos : Pos} {K : PySem.W.Frag} {B H B' H' : Hp} {σ : L2.St} {mg : Str → Option Value}
theorem pdsNil : PDs X H0 W [] [] := ⟨paWeak pa_nil fun σ H Q ⟨B, ρ, E, q⟩ => by
  rcases q with ⟨ss, h1, h2⟩ | ⟨n, h1, h2⟩
  · cases h1; exact h2 [] B H E.nx0 .nil
  · cases h1⟩
theorem pdsCons (ha : PD X H0 W e f) (hr : PDs X H0 W es fs) (hs : starEach (e :: es) X.env = (false, eval e X.env) :: starEach es X.env := by rfl) : PDs X H0 W (e :: es) (f :: fs) := ⟨paWeak (pa_cons ha.z hr.pa hs) fun σ H Q ⟨B, ρ, E, q⟩ => ⟨B, ρ, E, by
  have q' : OKA X.K X.mg H0 W B H σ (match f ρ with
    | some (.ok s) => match evs fs ρ with
      | some (.ok ss) => some (.ok (frz s :: ss))
      | r => r
    | some (.ex n) => some (.ex n)
    | none => none) Q := q
  cases r : f ρ with
  | none => rw [r] at q'; rcases q' with ⟨s, h1, h2⟩ | ⟨m, h1, h2⟩ <;> cases h1
  | some o =>
    rw [r] at q'
    cases o with
    | ex n =>
      rcases q' with ⟨s, h1, h2⟩ | ⟨m, h1, h2⟩
      · cases h1
      · cases h1; exact .inr ⟨n, rfl, h2⟩
    | ok s =>
      refine .inl ⟨s, rfl, fun v B1 H1 n1 r1 => ⟨B1, ρ, E.nx n1, ?_⟩⟩
      dsimp only at q'
      cases r2 : evs fs ρ with
      | none => rw [r2] at q'; rcases q' with ⟨s, h1, h2⟩ | ⟨m, h1, h2⟩ <;> cases h1
      | some o2 =>
        rw [r2] at q'
        cases o2 with
        | ex n =>
          rcases q' with ⟨s, h1, h2⟩ | ⟨m, h1, h2⟩
          · cases h1
          · cases h1; exact .inr ⟨n, rfl, h2.nx n1⟩
        | ok ss =>
          rcases q' with ⟨s', h1, h2⟩ | ⟨m, h1, h2⟩
          · cases h1
            exact .inl ⟨ss, rfl, fun vs B2 H2 n2 rs => h2 (v :: vs) B2 H2 (n1.trans n2) (.cons (r1.mono n2) rs)⟩
          · cases h1⟩⟩
def bzs (r : Option Ra) (k : List Sl → Option Rs) : Option Rs :=
  match r with
  | some (.ok ss) => k ss
  | some (.ex n) => some (.ex n)
  | none => none
theorem OK.bzs {r : Option Ra} {k : List Sl → Option Rs} {Q : VK} {R : List V → Hp → Prop} (h : OK K mg H0 W B H σ (PL.bzs r k) Q)
    (c : ∀ (ss : List Sl) (vs : List V) (B' H' : Hp), Nx B H B' H' → RZs K H0 B' H' vs ss → OK K mg H0 W B' H' σ (k ss) Q → R vs H') : OKA K mg H0 W B H σ r R := by
  cases r with
  | none => exact (okNone h).elim
  | some o =>
    cases o with
    | ok ss => exact .inl ⟨ss, rfl, fun vs B' H' n rz => c ss vs B' H' n rz (OK.nx h n)⟩
    | ex m =>
      rcases h with ⟨s, h1, h2⟩ | ⟨m', h1, h2⟩
      · cases h1
      · cases h1; exact .inr ⟨m, rfl, h2⟩
/-- what may be put into a new object: its freshness, its data -/
def stor : Sl → Option (Bool × PyData)
  | .val fr d => some (fr || scal d, d)
  | .brf d => if scal d = true then some (true, d) else none
  | _ => none
def stors : List Sl → Option (Bool × List PyData)
  | [] => some (true, [])
  | s :: ss => match stor s with
    | some (f, d) => match stors ss with
      | some (g, ds) => some (f && g, d :: ds)
      | none => none
    | none => none
theorem RZ.stor {v : V} {s : Sl} {fr : Bool} {d : PyData} (r : RZ K H0 B H v s) (h : PL.stor s = some (fr, d)) : Rep (LF K H0 B fr) v d := by
  cases s with
  | val f d' =>
    cases h
    cases f with
    | true => exact r
    | false =>
      rw [Bool.false_or]
      cases hs : PL.scal d with
      | true => exact Rep.scal r hs
      | false => exact r
  | brf d' =>
    unfold PL.stor at h
    dsimp only at h
    split at h
    · rename_i hs; cases h; exact Rep.scal r hs
    · cases h
  | exn _ => cases h
  | cel _ => cases h
  | und => cases h
  | own _ _ => cases h
  | full _ => cases h
  | bor _ _ => cases h
theorem RZs.stors : ∀ {vs : List V} {ss : List Sl} {fr : Bool} {ds : List PyData}, RZs K H0 B H vs ss → PL.stors ss = some (fr, ds) → RepAll (LF K H0 B fr) vs ds
  | _, _, _, _, .nil, h => by cases h; exact .nil
  | _, _, fr, ds, .cons (s := s) (ss := ss) r rs, h => by
    unfold PL.stors at h
    split at h
    · rename_i f d hd
      split at h
      · rename_i g ds' hds
        cases h
        exact .cons ((r.stor hd).mono LF.and1) ((RZs.stors rs hds).mono LF.and2)
      · cases h
    · cases h
def eList (fs : List EF) : EF := fun ρ => PL.bzs (evs fs ρ) fun ss => match PL.stors ss with
  | some (fr, ds) => if ds.length ≤ 16777216 then some (.ok (.own fr ds)) else none
  | none => none
def eTup (fs : List EF) : EF := fun ρ => PL.bzs (evs fs ρ) fun ss => match PL.stors ss with
  | some (fr, ds) => if ds.length ≤ 16777216 then some (.ok (.val fr (.tuple ds))) else none
  | none => none
theorem pdList (h : PDs X H0 W es fs) : PD X H0 W (.List es pos) (eList fs) := ⟨peWeak (pe_lst h.pa) fun σ H Q ⟨B, ρ, E, q⟩ => ⟨B, ρ, E, OK.bzs q fun ss vs B1 H1 n1 r1 q1 => by
  split at q1
  · rename_i fr ds hd
    split at q1
    · rename_i hz
      rcases q1 with ⟨s, h1, h2⟩ | ⟨m, h1, h2⟩
      · cases h1
        have ra := r1.stors hd
        exact ⟨by rw [sizeLine_eq, ra.length]; exact hz, fun p hp => h2.new n1.bh ra hp⟩
      · cases h1
    · exact (okNone q1).elim
  · exact (okNone q1).elim⟩⟩
theorem pdTup {x1 : Nat} (h : PDs X H0 W es fs) : PD X H0 W (.Tuple es x1 pos) (eTup fs) := ⟨peWeak (pe_tup h.pa) fun σ H Q ⟨B, ρ, E, q⟩ => ⟨B, ρ, E, OK.bzs q fun ss vs B1 H1 n1 r1 q1 => by
  split at q1
  · rename_i fr ds hd
    split at q1
    · rename_i hz
      rcases q1 with ⟨s, h1, h2⟩ | ⟨m, h1, h2⟩
      · cases h1
        have ra := r1.stors hd
        exact ⟨by rw [sizeLine_eq, ra.length]; exact hz, fun p hp => h2.tup (E.nx n1).e0 n1.bh ra hp⟩
      · cases h1
    · exact (okNone q1).elim
  · exact (okNone q1).elim⟩⟩
/-- an item: what is told of it -/
def mkb (d : PyData) : Sl := if scal d = true then .val true d else .brf d
def fIx (x y : Sl) : Option Sl :=
  match dat y with
  | some (.int i) => match lstR x with
    | some (fr, ds) => (atI ds i).map (mkv fr)
    | none => match tupD x with
      | some (fr, ds) => (atI ds i).map (mkv fr)
      | none => match x with
        | .brf (.list ds) => (atI ds i).map mkb
        | .brf (.tuple ds) => (atI ds i).map mkb
        | .val _ (.str z) => if z.length ≤ 16777216 then (atI z.cps.toList i).map fun c => .val true (.str ⟨#[c]⟩) else none
        | _ => none
  | _ => none
theorem atI_rep {L : Addr → HO → Prop} {vs : List V} {ds : List PyData} {i : Int} {d : PyData} (r : RepAll L vs ds) (h : atI ds i = some d) : ∃ v, atI vs i = some v ∧ Rep L v d := by
  unfold atI at h ⊢
  rw [r.length]
  cases q : ixN ds.length i with
  | none => rw [q] at h; cases h
  | some j =>
    rw [q] at h
    obtain ⟨v, h1, h2⟩ := r.at h
    exact ⟨v, h1, h2⟩
theorem mkv_rep {v : V} {fr : Bool} {d : PyData} (r : Rep (LF K H0 B fr) v d) : RR K H0 B H emp v (mkv fr d) := by
  show Rep (LF K H0 B (fr || scal d)) v d
  cases fr with
  | true => exact r
  | false =>
    rw [Bool.false_or]
    cases hs : scal d with
    | true => exact Rep.scal r hs
    | false => exact r
theorem mkb_rep {v : V} {d : PyData} (r : Rep (LN H) v d) : RR K H0 B H emp v (mkb d) := by
  unfold mkb
  split
  · rename_i hs; exact Rep.scal r hs
  · exact r
theorem op2Ix : Op2 X H0 (rIx X.K) fIx := by
  intro B H x y v w s Q e0 eB r1 r2 hf hq
  unfold fIx at hf
  split at hf
  · rename_i i hi
    have hw := (r2.data eB hi).intV
    split at hf
    · rename_i fr ds hd
      obtain ⟨p, vs, rfl, s1, a1⟩ := r1.lstR eB hd
      cases ha : atI ds i with
      | none => rw [ha] at hf; cases hf
      | some d =>
        rw [ha] at hf; cases hf
        obtain ⟨z, h1, h2⟩ := atI_rep a1 ha
        exact .inl ⟨p, vs, i, z, rfl, hw, s1, h1, hq.same eB (mkv_rep h2)⟩
    · split at hf
      · rename_i fr ds hd
        obtain ⟨p, vs, rfl, s1, a1⟩ := r1.tup eB hd
        cases ha : atI ds i with
        | none => rw [ha] at hf; cases hf
        | some d =>
          rw [ha] at hf; cases hf
          obtain ⟨z, h1, h2⟩ := atI_rep a1 ha
          exact .inr (.inl ⟨p, vs, i, z, rfl, hw, s1, h1, hq.same eB (mkv_rep h2)⟩)
      · split at hf
        · rename_i ds _ _
          cases ha : atI ds i with
          | none => rw [ha] at hf; cases hf
          | some d =>
            rw [ha] at hf; cases hf
            obtain ⟨p, vs, rfl, h1, h2⟩ := Rep.lstV r1
            obtain ⟨z, h3, h4⟩ := atI_rep h2 ha
            exact .inl ⟨p, vs, i, z, rfl, hw, SqL.of h1, h3, hq.same eB (mkb_rep h4)⟩
        · rename_i ds _ _
          cases ha : atI ds i with
          | none => rw [ha] at hf; cases hf
          | some d =>
            rw [ha] at hf; cases hf
            obtain ⟨p, vs, rfl, h1, h2⟩ := Rep.tupV r1
            obtain ⟨z, h3, h4⟩ := atI_rep h2 ha
            exact .inr (.inl ⟨p, vs, i, z, rfl, hw, SqT.of h1, h3, hq.same eB (mkb_rep h4)⟩)
        · rename_i fr z _ _
          split at hf
          · rename_i hz
            cases ha : atI z.cps.toList i with
            | none => rw [ha] at hf; cases hf
            | some c =>
              rw [ha] at hf; cases hf
              exact .inr (.inr ⟨z, i, c, Rep.strV r1, hw, by rw [sizeLine_eq]; exact hz, ha, hq.str eB⟩)
          · cases hf
        · cases hf
  · cases hf
theorem pdIx (ha : PD X H0 W a f) (hb : PD X H0 W b g) (hs : PlainIx b := by exact fun _ _ => rfl) : PD X H0 W (.Subscript a b pos) (e2 fIx f g) := pd2 ha hb op2Ix fun pa pb => pe_ix ix_seq pa pb hs
inductive Rp where
  | ok (o : Option Int)
  | ex (n : Str)
abbrev PF := Ev → Option Rp
def OKP (K : PySem.W.Frag) (mg : Str → Option Value) (W : WX) (B H : Hp) (σ : L2.St) (o : Option Rp) (Q : Option Int → Hp → Prop) : Prop :=
  (∃ b, o = some (.ok b) ∧ ∀ B' H', Nx B H B' H' → Q b H') ∨ ∃ n, o = some (.ex n) ∧ KX mg B H σ W n
def tO (K : PySem.W.Frag) (mg : Str → Option Value) (H0 : En) (W : WX) (f : PF) : TO := fun σ H Q => ∃ B ρ, ER K H0 B H σ ρ ∧ OKP K mg W B H σ (f ρ) Q
structure PP (X : Cx) (H0 : En) (W : WX) (o : Option Expr) (f : PF) : Prop where
  po : PO X o (tO X.K X.mg H0 W f)
theorem poWeak {o : Option Expr} {t t' : TO} (h : PO X o t) (i : ∀ σ H Q, t' σ H Q → t σ H Q) : PO X o t' := ⟨fun pins s σ H Q I q => h.run pins s σ H Q I (i σ H Q q)⟩
def pN : PF := fun _ => some (.ok none)
def pS (f : EF) : PF := fun ρ => match f ρ with
  | some (.ok s) => match dat (frz s) with
    | some (.int i) => some (.ok (some i))
    | _ => none
  | some (.ex n) => some (.ex n)
  | none => none
theorem ppN : PP X H0 W none pN := ⟨poWeak po_none fun σ H Q ⟨B, ρ, E, q⟩ => by
  rcases q with ⟨b, h1, h2⟩ | ⟨m, h1, h2⟩
  · cases h1; exact h2 B H E.nx0
  · cases h1⟩
theorem ppS (h : PD X H0 W e f) : PP X H0 W (some e) (pS f) := ⟨poWeak (po_some h.z) fun σ H Q ⟨B, ρ, E, q⟩ => ⟨B, ρ, E, by
  unfold pS at q
  cases r : f ρ with
  | none => rw [r] at q; rcases q with ⟨s, h1, h2⟩ | ⟨m, h1, h2⟩ <;> cases h1
  | some o =>
    rw [r] at q
    cases o with
    | ex n =>
      rcases q with ⟨s, h1, h2⟩ | ⟨m, h1, h2⟩
      · cases h1
      · cases h1; exact .inr ⟨n, rfl, h2⟩
    | ok s =>
      refine .inl ⟨s, rfl, fun v B1 H1 n1 r1 => ?_⟩
      dsimp only at q
      split at q
      · rename_i i hi
        rcases q with ⟨b, h1, h2⟩ | ⟨m, h1, h2⟩
        · cases h1
          exact ⟨i, (r1.data n1.bh hi).intV, h2 B1 H1 n1⟩
        · cases h1
      · rcases q with ⟨s, h1, h2⟩ | ⟨m, h1, h2⟩ <;> cases h1⟩⟩
def bp (r : Option Rp) (k : Option Int → Option Rs) : Option Rs :=
  match r with
  | some (.ok o) => k o
  | some (.ex n) => some (.ex n)
  | none => none
theorem OK.bp {r : Option Rp} {k : Option Int → Option Rs} {Q : VK} {R : Option Int → Hp → Prop} (h : OK K mg H0 W B H σ (PL.bp r k) Q)
    (c : ∀ (o : Option Int) (B' H' : Hp), Nx B H B' H' → OK K mg H0 W B' H' σ (k o) Q → R o H') : OKP K mg W B H σ r R := by
  cases r with
  | none => exact (okNone h).elim
  | some o =>
    cases o with
    | ok o => exact .inl ⟨o, rfl, fun B' H' n => c o B' H' n (OK.nx h n)⟩
    | ex m =>
      rcases h with ⟨s, h1, h2⟩ | ⟨m', h1, h2⟩
      · cases h1
      · cases h1; exact .inr ⟨m, rfl, h2⟩
def cutD (ds : List PyData) (lo hi : Option Int) : List PyData := (ds.drop (HT.sIx ds.length 0 lo)).take (HT.sIx ds.length ds.length hi - HT.sIx ds.length 0 lo)
theorem RepAll.cut {L : Addr → HO → Prop} {vs : List V} {ds : List PyData} (r : RepAll L vs ds) (lo hi : Option Int) : RepAll L (cutV vs lo hi) (cutD ds lo hi) := by
  unfold cutV cutD
  rw [r.length]
  exact (r.drop _).take _
def slF (x : Sl) (l h : Option Int) : Option Rs := match lstD x with
  | some (fr, ds) => some (.ok (.own fr (cutD ds l h)))
  | none => match x with
    | .val fr (.tuple ds) => some (.ok (.val fr (.tuple (cutD ds l h))))
    | .brf (.tuple ds) => if ((cutD ds l h).all PL.scal && decide ((cutD ds l h).length < ds.length)) = true then some (.ok (.val true (.tuple (cutD ds l h)))) else none
    | _ => none
def eSl (f : EF) (lo hi : PF) : EF := fun ρ => PL.bz (f ρ) fun x => PL.bp (lo ρ) fun l => PL.bp (hi ρ) fun h => slF x l h
theorem cut_whole {ds : List PyData} {l h : Option Int} (e : HT.sIx ds.length 0 l = 0 ∧ HT.sIx ds.length ds.length h = ds.length) : cutD ds l h = ds := by
  unfold cutD
  rw [e.1, e.2, List.drop_zero, Nat.sub_zero, List.take_length]
theorem pdSl {lo hi : Option Expr} {p2 : Pos} {l h : PF} (he : PD X H0 W e f) (hl : PP X H0 W lo l) (hh : PP X H0 W hi h) : PD X H0 W (.Subscript e (.Slice lo hi none p2) pos) (eSl f l h) := ⟨peWeak (pe_slice (sl_list.or sl_tupA) he.z hl.po hh.po) fun σ H Q ⟨B, ρ, E, q⟩ => ⟨B, ρ, E, OK.bz q fun x v B1 H1 n1 r1 q1 => ⟨B1, ρ, E.nx n1, OK.bp q1 fun l B2 H2 n2 q2 => ⟨B2, ρ, (E.nx n1).nx n2, OK.bp q2 fun h B3 H3 n3 q3 => by
  have r3 := (r1.mono n2).mono n3
  have e3 := (((E.nx n1).nx n2).nx n3).e0
  unfold slF at q3
  split at q3
  · rename_i fr ds hd
    obtain ⟨p, vs, rfl, s1, a1⟩ := r3.lst n3.bh hd
    rcases q3 with ⟨s, h1, h2⟩ | ⟨m, h1, h2⟩
    · cases h1
      exact .inl ⟨p, vs, rfl, s1, fun q hq => h2.new n3.bh (a1.cut l h) hq⟩
    · cases h1
  · split at q3
    · rename_i fr ds hd
      obtain ⟨p, vs, rfl, s1, a1⟩ := RZ.tup n3.bh r3 rfl
      rcases q3 with ⟨s, h1, h2⟩ | ⟨m, h1, h2⟩
      · cases h1
        refine .inr ⟨p, vs, rfl, s1, fun hw => ?_, fun hw q hq => h2.tup e3 n3.bh (a1.cut l h) hq⟩
        rw [a1.length] at hw
        rw [cut_whole hw] at h2
        exact h2.same n3.bh r3
      · cases h1
    · rename_i ds hd
      split at q3
      · rename_i hz
        rw [Bool.and_eq_true, decide_eq_true_eq] at hz
        obtain ⟨p, vs, rfl, g1, g2⟩ := Rep.tupV r3
        rcases q3 with ⟨s, h1, h2⟩ | ⟨m, h1, h2⟩
        · cases h1
          refine .inr ⟨p, vs, rfl, SqT.of g1, fun hw => ?_, fun hw q hq => h2.tup e3 n3.bh ((g2.cut l h).scal hz.1) hq⟩
          rw [g2.length] at hw
          rw [cut_whole hw] at hz
          exact absurd hz.2 (Nat.lt_irrefl _)
        · cases h1
      · exact (okNone q3).elim
    · exact (okNone q3).elim⟩⟩⟩⟩
def fRev (x : Sl) : Option Sl := match lstD x with
  | some (fr, ds) => some (.own fr ds.reverse)
  | none => none
theorem pdRev {k : Nat} {p1 p2 p3 : Pos} (he : PD X H0 W e f) : PD X H0 W (.Subscript e (.Slice none none (some (.UnaryOp .USub (.Constant (.int 1) k p1) p2)) p3) pos) (e1 fRev f) := ⟨peWeak (pe_revL he.z) fun σ H Q ⟨B, ρ, E, q⟩ => ⟨B, ρ, E, OK.bz q fun x v B1 H1 n1 r1 q1 => by
  obtain ⟨s, h1, h2⟩ := OK.okO q1
  unfold fRev at h1
  split at h1
  · rename_i fr ds hd
    cases h1
    obtain ⟨p, vs, rfl, s1, a1⟩ := r1.lst n1.bh hd
    exact ⟨p, vs, rfl, s1, fun q hq => h2.new n1.bh a1.reverse hq⟩
  · cases h1⟩⟩
def CB (X : Cx) (H0 : En) (r : List V → Hp → VK → Prop) (F : List Sl → Option Sl) : Prop := ∀ (B H : Hp) (ss : List Sl) (vs : List V) (s : Sl) (Q : VK), Same H0.H H → Same B H → RZs X.K H0 B H vs ss → F ss = some s → KQ X.K H0 B H s Q → r vs H Q
def eCB (F : List Sl → Option Sl) (fs : List EF) : EF := fun ρ => PL.bzs (evs fs ρ) fun ss => okO (F ss)
theorem pdCB {r : List V → Hp → VK → Prop} {F : List Sl → Option Sl} (ha : PDs X H0 W es fs) (ho : CB X H0 r F) (hp : ∀ {ta : TA}, PA X es ta → PE X e (tCB r ta)) : PD X H0 W e (eCB F fs) := ⟨peWeak (hp ha.pa) fun σ H Q ⟨B, ρ, E, q⟩ => ⟨B, ρ, E, OK.bzs q fun ss vs B1 H1 n1 r1 q1 => by
  obtain ⟨s, h1, h2⟩ := OK.okO q1
  exact ho B1 H1 ss vs s Q (E.nx n1).e0 n1.bh r1 h1 h2⟩⟩
/-- one datum in, a scalar out -/
def D1 (X : Cx) (f : Value) (g : PyData → Option PyData) : Prop :=
  ∀ (s : Shared) (u : Value) (d r : PyData) (as : List Addr) (Q : Value → Shared → Prop), Reads s.heap u d as → d.plain = true → g d = some r → scal r = true →
    (∀ z h' tk, (∀ b o, s.heap.get? b = some o → h'.get? b = some o) → RelV (vOf r) z → Q z { s with heap := h', toks := tk }) → wpAny (model X.prog X.w) X.A (call f [u]) Q X.xe s
def rD1 (K : PySem.W.Frag) (g : PyData → Option PyData) : List V → Hp → VK → Prop := fun vs H Q => ∃ x d r, vs = [x] ∧ Rep (LH K H) x d ∧ g d = some r ∧ scal r = true ∧ Q (vOf r) H
theorem D1.call {f : Value} {g : PyData → Option PyData} (h : D1 X f g) : CallR X f (rD1 X.K g) := by
  intro pins s σ H xs us Q I r ⟨x, d, y, e1, h1, h2, h3, q⟩
  subst e1
  obtain ⟨u, rfl, rx⟩ := vals1 r
  obtain ⟨as, r1⟩ := h1.reads I rx
  exact h s u d y as _ r1 h1.plain h2 h3 fun z h' tk hk hz => ⟨_, H, I.kept hk, hz, q⟩
def fD1 (g : PyData → Option PyData) (ss : List Sl) : Option Sl :=
  match ss with
  | [x] => match dat x with
    | some d => match g d with
      | some r => if scal r = true then some (.val true r) else none
      | none => none
    | none => none
  | _ => none
theorem cbD1 (g : PyData → Option PyData) : CB X H0 (rD1 X.K g) (fD1 g) := by
  intro B H ss vs s Q e0 eB r hf hq
  unfold fD1 at hf
  split at hf
  · rename_i x
    cases r with
    | cons r rs =>
      cases rs
      split at hf
      · rename_i d hd
        split at hf
        · rename_i y hy
          split at hf
          · rename_i hs
            cases hf
            exact ⟨_, d, y, rfl, r.data eB hd, hy, hs, hq.scal eB hs⟩
          · cases hf
        · cases hf
      · cases hf
  · cases hf
theorem cr1 {f : Value} {r : List V → Hp → VK → Prop} {g : PyData → Option PyData} (h : CallR X f r) (i : ∀ K H x d y (Q : VK), K = X.K → Rep (LH K H) x d → g d = some y → Q (vOf y) H → r [x] H Q) : CallR X f (rD1 X.K g) := by
  intro pins s σ H xs us Q I rv ⟨x, d, y, e1, h1, h2, h3, q⟩
  subst e1
  exact h pins s σ H [x] us Q I rv (i _ H x d y Q rfl h1 h2 q)
def gLen (d : PyData) : Option PyData := match d with
  | .list xs => some (.int xs.length)
  | .tuple xs => some (.int xs.length)
  | .str x => if x.length ≤ 16777216 then some (.int x.length) else none
  | _ => none
theorem crLen : CallR X (.builtin "len") (rD1 X.K gLen) := cr1 (call_len_seq.or call_len_str) fun K H x d y Q e r h q => by
  subst e
  cases r with
  | lst e r => cases h; exact .inl ⟨_, _, rfl, .inl e, by rw [r.length]; exact q⟩
  | tup e r => cases h; exact .inl ⟨_, _, rfl, .inr e, by rw [r.length]; exact q⟩
  | str x =>
    unfold gLen at h
    dsimp only at h
    split at h
    · rename_i hz; cases h; exact .inr ⟨x, rfl, by rw [sizeLine_eq]; exact hz, q⟩
    · cases h
  | non => cases h
  | bl _ => cases h
  | int _ => cases h
def gAbs (d : PyData) : Option PyData := match d with | .int i => some (.int (if i < 0 then -i else i)) | _ => none
theorem crAbs : CallR X (.builtin "abs") (rD1 X.K gAbs) := cr1 call_abs fun K H x d y Q e r h q => by
  cases r <;> first | cases h | skip
  exact ⟨_, rfl, q⟩
def gInt (d : PyData) : Option PyData := match d with | .int i => some (.int i) | .bool b => some (.int (if b then 1 else 0)) | _ => none
theorem crInt : CallR X (.type "int") (rD1 X.K gInt) := cr1 call_int1 fun K H x d y Q e r h q => by
  cases r <;> first | cases h | skip
  · exact .inr ⟨_, rfl, q⟩
  · exact .inl ⟨_, rfl, q⟩
/-- repr -/
def gRepr (d : PyData) : Option PyData := if d.showable = true ∧ d.depth ≤ 60 ∧ d.shown.length ≤ 16777216 then some (.str d.shown) else none
theorem noDict_of_plain : ∀ d : PyData, d.plain = true → d.hasDict = false := by
  intro d
  exact PyData.rec (motive_1 := fun d => d.plain = true → d.hasDict = false) (motive_2 := fun ds => PyData.plainAll ds = true → PyData.hasDictAll ds = false) (motive_3 := fun _ => True) (motive_4 := fun _ => True)
    (fun _ => by simp [PyData.hasDict]) (fun _ _ => by simp [PyData.hasDict]) (fun _ _ => by simp [PyData.hasDict]) (fun _ _ => by simp [PyData.hasDict])
    (fun xs ih h => by simp only [PyData.hasDict]; exact ih (by simpa [PyData.plain] using h)) (fun xs ih h => by simp only [PyData.hasDict]; exact ih (by simpa [PyData.plain] using h)) (fun kvs _ h => by cases h)
    (fun _ => by simp [PyData.hasDictAll]) (fun x xs ih1 ih2 h => by
      have h' : x.plain = true ∧ PyData.plainAll xs = true := by simpa [PyData.plainAll] using h
      simp only [PyData.hasDictAll, ih1 h'.1, ih2 h'.2, Bool.or_self]) trivial (fun _ _ _ _ => trivial) (fun _ _ _ _ => trivial) d
theorem d1Repr (hr : X.A.units + 64 < cLine) (hg : X.A.guards = some []) : D1 X (.builtin "repr") gRepr := by
  intro s u d r as Q r1 p1 h hs q
  unfold gRepr at h
  split at h
  · rename_i hz
    cases h
    have hu := hr
    have hsz : d.shown.length ≤ sizeLine := by rw [sizeLine_eq]; exact hz.2.2
    cases r1 with
    | list a b c e => exact repr_of_reads' (.list a b c e) hz.1 (PyData.noDict_hsm (noDict_of_plain _ p1)) hg (by have := hz.2.1; omega) (fun _ _ e => e) (fun h' u tk hk => q _ h' tk hk ⟨u, rfl⟩) hsz
    | tuple a b c e => exact repr_of_reads' (.tuple a b c e) hz.1 (PyData.noDict_hsm (noDict_of_plain _ p1)) hg (by have := hz.2.1; omega) (fun _ _ e => e) (fun h' u tk hk => q _ h' tk hk ⟨u, rfl⟩) hsz
    | none => exact PySem.P.repr_of_none (q _ s.heap _ (fun _ _ e => e) ⟨_, by rw [PyData.shown_none]⟩)
    | bool b => exact PySem.P.repr_of_bool (q _ s.heap _ (fun _ _ e => e) ⟨_, by rw [PyData.shown_bool]⟩)
    | int i t => exact PySem.P.repr_of_int (by simpa [PyData.showable] using hz.1) (q _ s.heap _ (fun _ _ e => e) ⟨_, by rw [PyData.shown_int]⟩)
    | str x t => exact PySem.P.repr_of_str (q _ s.heap _ (fun _ _ e => e) ⟨_, by rw [PyData.shown_str]⟩) (by rw [← PyData.shown_str]; exact hsz)
    | dict _ _ _ _ _ => cases p1
  · cases h
end
end PL
namespace PL
open PySem PySem.Spec PyProof.Rows L2
inductive Out where
  | nx (ρ : Ev)
  | rt (s : Sl)
  | bk (ρ : Ev)
  | ct (ρ : Ev)
  | ex (n : Str) (ρ : Ev)
abbrev SF := Ev → Option Out
/-- what is wanted behind o, from (B, H) -/
def OUT (K : PySem.W.Frag) (mg : Str → Option Value) (H0 : En) (W : WX) (B : Hp) (o : Out) (D : Ends) : Prop :=
  match o with
  | .nx ρ => ∀ σ B' H', ER K H0 B' H' σ ρ → Same B B' → D.nx σ H'
  | .bk ρ => ∀ σ B' H', ER K H0 B' H' σ ρ → Same B B' → D.bk σ H'
  | .ct ρ => ∀ σ B' H', ER K H0 B' H' σ ρ → Same B B' → D.ct σ H'
  | .rt s => ∀ v σ ρ B' H' T, ER K H0 B' H' σ ρ → Same B B' → Same T H' → (∀ a, T a ≠ none → B' a = none ∧ H0.H a = none) → RR K H0 B' H' T v s → D.rt v H'
  | .ex n ρ => ∀ c σ B' H', mg n = some c → ER K H0 B' H' σ ρ → Same B B' → W c none σ H'
theorem OUT.same {K : PySem.W.Frag} {mg : Str → Option Value} {H0 : En} {W : WX} {B B' : Hp} {o : Out} {D : Ends} (h : OUT K mg H0 W B o D) (e : Same B B') : OUT K mg H0 W B' o D := by
  cases o with
  | nx ρ => exact fun σ B2 H2 E s => h σ B2 H2 E (e.trans s)
  | bk ρ => exact fun σ B2 H2 E s => h σ B2 H2 E (e.trans s)
  | ct ρ => exact fun σ B2 H2 E s => h σ B2 H2 E (e.trans s)
  | rt s => exact fun v σ ρ B2 H2 T E s t1 t2 r => h v σ ρ B2 H2 T E (e.trans s) t1 t2 r
  | ex n ρ => exact fun c σ B2 H2 hc E s => h c σ B2 H2 hc E (e.trans s)
def tS (K : PySem.W.Frag) (mg : Str → Option Value) (H0 : En) (W : WX) (f : SF) : TS := fun D σ H => ∃ B ρ o, ER K H0 B H σ ρ ∧ f ρ = some o ∧ OUT K mg H0 W B o D
structure PSD (X : Cx) (H0 : En) (W : WX) (st : Stmt) (f : SF) : Prop where
  ps : PS X st (tS X.K X.mg H0 W f)
structure PSDs (X : Cx) (H0 : En) (W : WX) (st : List Stmt) (f : SF) : Prop where
  pss : PSs X st (tS X.K X.mg H0 W f)
/-- the continuation of a statement's expression -/
def bS (r : Option Rs) (ρ : Ev) (k : Sl → Option Out) : Option Out :=
  match r with
  | some (.ok s) => k s
  | some (.ex n) => some (.ex n ρ)
  | none => none
def bSz (r : Option Rs) (ρ : Ev) (k : Sl → Option Out) : Option Out :=
  match r with
  | some (.ok s) => k (frz s)
  | some (.ex n) => some (.ex n ρ)
  | none => none
section
variable {X : Cx} {H0 : En} {W : WX} {e a b c : Expr} {es : List Expr} {f g k : EF} {fs : List EF} {pos : Pos} {K : PySem.W.Frag} {B H B' H' : Hp} {σ : L2.St} {mg : Str → Option Value} {ρ : Ev} {D : Ends} {st : Stmt} {sts rest : List Stmt} {F G : SF} {t : BF}
theorem kx_of (E : ER K H0 B H σ ρ) {n : Str} (h : OUT K mg H0 W B (.ex n ρ) D) : KX mg B H σ W n := fun c B' H' hc n' => h c σ B' H' hc (E.nx n') n'.b
theorem bS_ok {r : Option Rs} {kk : Sl → Option Out} {o : Out} {R : VK} (E : ER K H0 B H σ ρ) (h : bS r ρ kk = some o) (ho : OUT K mg H0 W B o D)
    (c : ∀ s v B' H' T, Nx B H B' H' → TF H B' H' T → RR K H0 B' H' T v s → kk s = some o → OUT K mg H0 W B' o D → R v H') : OK K mg H0 W B H σ r R := by
  cases r with
  | none => cases h
  | some q =>
    cases q with
    | ok s => exact .inl ⟨s, rfl, fun v B' H' T n t r => c s v B' H' T n t r h (ho.same n.b)⟩
    | ex n => cases h; exact .inr ⟨n, rfl, kx_of E ho⟩
theorem bSz_ok {r : Option Rs} {kk : Sl → Option Out} {o : Out} {R : VK} (E : ER K H0 B H σ ρ) (h : bSz r ρ kk = some o) (ho : OUT K mg H0 W B o D)
    (c : ∀ s v B' H', Nx B H B' H' → RZ K H0 B' H' v s → kk s = some o → OUT K mg H0 W B' o D → R v H') : OKZ K mg H0 W B H σ r R := by
  cases r with
  | none => cases h
  | some q =>
    cases q with
    | ok s => exact .inl ⟨s, rfl, fun v B' H' n r => c (frz s) v B' H' n r h (ho.same n.b)⟩
    | ex n => cases h; exact .inr ⟨n, rfl, kx_of E ho⟩
def sNil : SF := fun ρ => some (.nx ρ)
def sSeq (f g : SF) : SF := fun ρ => match f ρ with
  | some (.nx ρ') => g ρ'
  | r => r
theorem psdsNil : PSDs X H0 W [] sNil := ⟨pssWeak pss_nil fun D σ H ⟨B, ρ, o, E, h, ho⟩ => by cases h; exact ho σ B H E (Same.refl _)⟩
theorem seq_out {o : Out} (h : sSeq F G ρ = some o) (ho : OUT K mg H0 W B o D) : ∃ o1, F ρ = some o1 ∧ OUT K mg H0 W B o1 { D with nx := tS K mg H0 W G D } := by
  unfold sSeq at h
  cases r : F ρ with
  | none => rw [r] at h; cases h
  | some o1 =>
    rw [r] at h
    refine ⟨o1, rfl, ?_⟩
    cases o1 with
    | nx ρ' => exact fun σ B' H' E s => ⟨B', ρ', o, E, h, ho.same s⟩
    | rt s => cases h; exact ho
    | bk ρ' => cases h; exact ho
    | ct ρ' => cases h; exact ho
    | ex n ρ' => cases h; exact ho
theorem psdsCons (h1 : PSD X H0 W st F) (h2 : PSDs X H0 W rest G) : PSDs X H0 W (st :: rest) (sSeq F G) := ⟨pssWeak (pss_cons h1.ps h2.pss) fun D σ H ⟨B, ρ, o, E, h, ho⟩ => by
  obtain ⟨o1, q1, q2⟩ := seq_out h ho
  exact ⟨B, ρ, o1, E, q1, q2⟩⟩
theorem psdsOne (h1 : PSD X H0 W st F) : PSDs X H0 W [st] F := ⟨pss_one h1.ps⟩
/-- a ghost step ahead of a block -/
theorem psdsGhost (g : Ev → Option Ev) (hg : ∀ B H σ ρ ρ', ER X.K H0 B H σ ρ → g ρ = some ρ' → ∃ B', ER X.K H0 B' H σ ρ' ∧ Same B B') (h : PSDs X H0 W sts F) : PSDs X H0 W sts (fun ρ => match g ρ with | some ρ' => F ρ' | none => none) := ⟨pssWeak h.pss fun D σ H ⟨B, ρ, o, E, h, ho⟩ => by
  dsimp only at h
  cases r : g ρ with
  | none => rw [r] at h; cases h
  | some ρ' =>
    rw [r] at h
    obtain ⟨B', E', s⟩ := hg B H σ ρ ρ' E r
    exact ⟨B', ρ', o, E', h, ho.same s⟩⟩
def sPass : SF := fun ρ => some (.nx ρ)
def sBreak : SF := fun ρ => some (.bk ρ)
def sCont : SF := fun ρ => some (.ct ρ)
def sExpr (f : EF) : SF := fun ρ => bSz (f ρ) ρ fun _ => some (.nx ρ)
theorem psdExpr (he : PD X H0 W e f) (hs : swapsWith e none pos.line X.env = pure false := by rfl) : PSD X H0 W (.Expr e pos) (sExpr f) := ⟨psWeak (ps_expr he.z hs) fun D σ H ⟨B, ρ, o, E, h, ho⟩ => ⟨B, ρ, E, bSz_ok E h ho fun s v B' H' n r q ho' => by
  cases q; exact ho' σ B' H' (E.nx n) (Same.refl _)⟩⟩
def sRet (f : EF) : SF := fun ρ => bS (f ρ) ρ fun s => if stb s = true then some (.rt s) else none
theorem psdRet (he : PD X H0 W e f) : PSD X H0 W (.Return (some e) pos) (sRet f) := ⟨psWeak (ps_ret he.pe) fun D σ H ⟨B, ρ, o, E, h, ho⟩ => ⟨B, ρ, E, bS_ok E h ho fun s v B' H' T n t r q ho' => by
  split at q
  · cases q
    exact ho' v σ ρ B' H' T (E.nx n) (Same.refl _) t.s (fun a ha => ⟨(t.n a ha).2, E.e0.free (t.n a ha).1⟩) r
  · cases q⟩⟩
/-- return x, x an own list -/
def sRetOwn (i : Nat) : SF := fun ρ => match ρ[i]? with
  | some (.own fr ds) => some (.rt (.own fr ds))
  | some (.full d) => some (.rt (.full d))
  | some (.val fr d) => some (.rt (.val fr d))
  | _ => none
theorem psdRetOwn {i : Nat} (h : PE X e (tVar i)) : PSD X H0 W (.Return (some e) pos) (sRetOwn i) := ⟨psWeak (ps_ret h) fun D σ H ⟨B, ρ, o, E, h, ho⟩ => by
  obtain ⟨F, f1, f2, f3, f4⟩ := E.ex
  unfold sRetOwn at h
  split at h
  · rename_i fr ds hr
    cases h
    obtain ⟨p, vs, e1, e2, r1⟩ := f4 i _ hr
    exact ⟨_, e1, ho _ σ ρ B H (F i) E (Same.refl _) (f1 i) (f2 i) ⟨p, vs, rfl, e2, r1⟩⟩
  · rename_i d hr
    cases h
    obtain ⟨v, e1, r1⟩ := f4 i _ hr
    exact ⟨_, e1, ho _ σ ρ B H (F i) E (Same.refl _) (f1 i) (f2 i) r1⟩
  · rename_i fr d hr
    cases h
    obtain ⟨v, e1, r1⟩ := f4 i _ hr
    exact ⟨_, e1, ho _ σ ρ B H emp E (Same.refl _) (fun _ _ z => nomatch z) (fun _ z => absurd rfl z) r1⟩
  · cases h⟩
def sRetN : SF := fun _ => some (.rt (.val true .none))
def sIf (t : BF) (F G : SF) : SF := fun ρ => match t ρ with
  | some (.ok true) => F ρ
  | some (.ok false) => G ρ
  | some (.ex n) => some (.ex n ρ)
  | none => none
theorem psdIf {A1 A2 : List Stmt} (hc : PB X H0 W c t) (ha : PSDs X H0 W A1 F) (hb : PSDs X H0 W A2 G) : PSD X H0 W (.If c A1 A2 pos) (sIf t F G) := ⟨psWeak (ps_if hc.pt ha.pss hb.pss) fun D σ H ⟨B, ρ, o, E, h, ho⟩ => ⟨B, ρ, E, by
  unfold sIf at h
  cases r : t ρ with
  | none => rw [r] at h; cases h
  | some q =>
    rw [r] at h
    cases q with
    | ok b =>
      refine .inl ⟨b, rfl, fun B' H' n => ?_⟩
      cases b with
      | true => rw [if_pos rfl]; exact ⟨B', ρ, o, E.nx n, h, ho.same n.b⟩
      | false => rw [if_neg Bool.false_ne_true]; exact ⟨B', ρ, o, E.nx n, h, ho.same n.b⟩
    | ex n => cases h; exact .inr ⟨n, rfl, kx_of E ho⟩⟩⟩
def sSet (i : Nat) (f : EF) : SF := fun ρ => bS (f ρ) ρ fun s => if stb s = true then some (.nx (ρ.set i s)) else none
def sSetZ (i : Nat) (f : EF) : SF := fun ρ => bSz (f ρ) ρ fun s => if stb s = true then some (.nx (ρ.set i s)) else none
theorem RZ.rr {v : V} {s : Sl} (r : RZ K H0 B H v s) : RR K H0 B H emp v s := by
  cases s with
  | und => exact r
  | own _ _ => exact r.elim
  | full _ => exact r.elim
  | val _ _ => exact r
  | bor _ _ => exact r
  | brf _ => exact r
  | exn _ => exact r.elim
  | cel _ => exact r.elim
theorem psdSet {i : Nat} {x : Str} {pos' : Pos} (hN : X.N.Nodup) (hi : X.N[i]? = some x) (hx : Loc X.env.scope x) (he : PD X H0 W e f) (hs : swapsWith e (some (.Name x pos')) pos.line X.env = pure false := by rfl) (hf : X.fn x = true ∨ X.env.scope.names.lookup x = some .local := by first | exact .inl rfl | exact .inr rfl | assumption) :
    PSD X H0 W (.Assign [.Name x pos'] e pos) (sSet i f) := ⟨psWeak (ps_set hN hi hx he.pe hs hf) fun D σ H ⟨B, ρ, o, E, h, ho⟩ => ⟨B, ρ, E, bS_ok E h ho fun s v B' H' T n t r q ho' => by
  split at q
  · rename_i hs; cases q
    exact ho' _ B' H' (E.set n t r hs) (Same.refl _)
  · cases q⟩⟩
theorem psdSetZ {i : Nat} {x : Str} {pos' : Pos} (hN : X.N.Nodup) (hi : X.N[i]? = some x) (hx : Loc X.env.scope x) (he : PD X H0 W e f) (hs : swapsWith e (some (.Name x pos')) pos.line X.env = pure false := by rfl) (hf : X.fn x = true ∨ X.env.scope.names.lookup x = some .local := by first | exact .inl rfl | exact .inr rfl | assumption) :
    PSD X H0 W (.Assign [.Name x pos'] e pos) (sSetZ i f) := ⟨psWeak (ps_set hN hi hx he.z hs hf) fun D σ H ⟨B, ρ, o, E, h, ho⟩ => ⟨B, ρ, E, bSz_ok E h ho fun s v B' H' n r q ho' => by
  split at q
  · rename_i hs; cases q
    exact ho' _ B' H' (E.set n TF.emp r.rr hs) (Same.refl _)
  · cases q⟩⟩
/-- x op= e, of scalars -/
def sAug (i : Nat) (F : PyData → PyData → Option PyData) (f : EF) : SF := fun ρ => bSz (eVar i ρ) ρ fun x => bSz (f ρ) ρ fun y => match fD F x y with
  | some s => some (.nx (ρ.set i s))
  | none => none
theorem psdAug {i : Nat} {x : Str} {pos' : Pos} {op : Operator} {G : PyData → PyData → Option PyData} (hN : X.N.Nodup) (hi : X.N[i]? = some x) (hx : Loc X.env.scope x) (he : PD X H0 W e f) (ho : OpR X (inplaceOp op) (rD X.K G)) (hf : X.fn x = true ∨ X.env.scope.names.lookup x = some .local := by first | exact .inl rfl | exact .inr rfl | assumption) :
    PSD X H0 W (.AugAssign (.Name x pos') op e pos) (sAug i G f) := ⟨psWeak (ps_aug (ti := rD X.K G) hN hi hx he.z ho hf) fun D σ H ⟨B, ρ, o, E, h, ho⟩ => by
  unfold sAug at h
  obtain ⟨F, f1, f2, f3, f4⟩ := E.ex
  have go : ∀ (x : Sl) (v : V), σ[i]? = some (some v) → RZ X.K H0 B H v x → (bSz (f ρ) ρ fun y => match fD G x y with | some s => some (.nx (ρ.set i s)) | none => none) = some o → tAug i (tZ X.K X.mg H0 W f) (rD X.K G) D σ H := fun x v e1 rx h' => by
    refine ⟨v, e1, B, ρ, E, bSz_ok E h' ho fun s w B' H' n r q ho' => ?_⟩
    split at q
    · rename_i z hz
      cases q
      obtain ⟨d, d', y, h1, h2, h3, h4, h5⟩ := fD_some hz
      subst h5
      exact ⟨d, d', y, (rx.mono n).data n.bh h1, r.data n.bh h2, h3, h4, ho' _ B' H' (E.set n (v := vOf y) (s := .val true y) TF.emp (Rep.vOf h4) rfl) (Same.refl _)⟩
    · cases q
  unfold eVar at h
  split at h
  · rename_i fr d hr
    obtain ⟨v, e1, r1⟩ := f4 i _ hr
    exact go (.val fr d) v e1 r1 h
  · rename_i fr ds hr
    obtain ⟨p, vs, e1, e2, r1⟩ := f4 i _ hr
    exact go (.bor fr ds) _ e1 ⟨p, vs, rfl, f1 i _ _ e2, r1⟩ h
  · rename_i d hr
    obtain ⟨v, e1, r1⟩ := f4 i _ hr
    exact go (.brf d) v e1 (Rep.mono (LN.mono (f1 i)) r1) h
  · cases h⟩
theorem iopAdd : OpR X (inplaceOp .Add) (rD X.K (gI cT (· + ·))) := dopI (PL.OpR.rI0 iop_add) fun _ _ _ => trivial
theorem iopSub : OpR X (inplaceOp .Sub) (rD X.K gSub) := dopI (PL.OpR.rI0 iop_sub) fun _ _ _ => trivial
abbrev GF := Sl → Ev → Option Ev
def tG (K : PySem.W.Frag) (H0 : En) (t : GF) : TG := fun v σ H Q => ∃ B ρ s ρ', ER K H0 B H σ ρ ∧ RZ K H0 B H v s ∧ t s ρ = some ρ' ∧ ∀ σ', ER K H0 B H σ' ρ' → Q σ' H
structure PGD (X : Cx) (H0 : En) (e : Expr) (t : GF) : Prop where
  pg : PG X e (tG X.K H0 t)
theorem pgWeak {t t' : TG} (h : PG X e t) (i : ∀ v σ H Q, t' v σ H Q → t v σ H Q) : PG X e t' := ⟨fun pins s σ H v u Q I r q => h.run pins s σ H v u Q I r (i v σ H Q q)⟩
def gN (i : Nat) : GF := fun s ρ => if stb s = true then some (ρ.set i s) else none
theorem pgdName {i : Nat} {x : Str} (hN : X.N.Nodup) (hi : X.N[i]? = some x) (hx : Loc X.env.scope x) (hf : X.fn x = true ∨ X.env.scope.names.lookup x = some .local := by first | exact .inl rfl | exact .inr rfl | assumption) : PGD X H0 (.Name x pos) (gN i) := ⟨pgWeak (pg_name hN hi hx hf) fun v σ H Q ⟨B, ρ, s, ρ', E, r, h, q⟩ => by
  unfold gN at h
  split at h
  · rename_i hs; cases h
    exact q _ (E.set E.nx0 TF.emp r.rr hs)
  · cases h⟩
/-- several names, the values given -/
def gSets : List Nat → List Sl → Ev → Option Ev
  | [], [], ρ => some ρ
  | i :: is, s :: ss, ρ => if stb s = true then gSets is ss (ρ.set i s) else none
  | _, _, _ => none
def tGs (K : PySem.W.Frag) (H0 : En) (is : List Nat) : TGs := fun vs σ H Q => ∃ B ρ ss ρ', ER K H0 B H σ ρ ∧ RZs K H0 B H vs ss ∧ gSets is ss ρ = some ρ' ∧ ∀ σ', ER K H0 B H σ' ρ' → Q σ' H
structure PGDs (X : Cx) (H0 : En) (es : List Expr) (is : List Nat) : Prop where
  pgs : PGs X es (tGs X.K H0 is)
theorem pgdsNil : PGDs X H0 [] [] := ⟨⟨fun pins s σ H vs us Q I r ⟨B, ρ, ss, ρ', E, rz, h, q⟩ => by
  cases ss with
  | cons _ _ => cases h
  | nil => cases h; cases rz; exact pgs_nil.run pins s σ H [] us Q I r ⟨rfl, q σ E⟩⟩⟩
theorem pgdsCons {i : Nat} {is : List Nat} {x : Str} (hN : X.N.Nodup) (hi : X.N[i]? = some x) (hx : Loc X.env.scope x) (h2 : PGDs X H0 es is) (hf : X.fn x = true ∨ X.env.scope.names.lookup x = some .local := by first | exact .inl rfl | exact .inr rfl | assumption)
    (hs : (assignEach (.Name x pos :: es) X.env).map (·.2) = assign (.Name x pos) X.env :: (assignEach es X.env).map (·.2) := by rfl) : PGDs X H0 (.Name x pos :: es) (i :: is) := ⟨⟨fun pins s σ H vs us Q I r ⟨B, ρ, ss, ρ', E, rz, h, q⟩ => by
  cases rz with
  | nil => cases h
  | @cons v vs' s1 ss' r1 rs =>
    unfold gSets at h
    split at h
    · rename_i hs1
      exact (pgs_cons (pg_name hN hi hx hf) h2.pgs hs).run pins s σ H _ us Q I r ⟨v, vs', rfl, B, _, ss', ρ', E.set E.nx0 TF.emp r1.rr hs1, rs, h, q⟩
    · cases h⟩⟩
/-- a tuple's items -/
def itemsT (s : Sl) : Option (List Sl) :=
  match tupD s with
  | some (fr, ds) => some (ds.map (mkv fr))
  | none => none
theorem rzs_map {fr : Bool} : ∀ {vs : List V} {ds : List PyData}, RepAll (LF K H0 B fr) vs ds → RZs K H0 B H vs (ds.map (mkv fr))
  | _, _, .nil => .nil
  | _, _, .cons r rs => .cons (mkv_rep (H := H) r) (rzs_map rs)
def gT (is : List Nat) : GF := fun s ρ => match itemsT s with
  | some ss => gSets is ss ρ
  | none => none
theorem gSets_len : ∀ {is : List Nat} {ss : List Sl} {ρ ρ' : Ev}, gSets is ss ρ = some ρ' → ss.length = is.length
  | [], [], _, _, _ => rfl
  | i :: is, s :: ss, ρ, ρ', h => by
    unfold gSets at h
    split at h
    · exact congrArg (· + 1) (gSets_len h)
    · cases h
  | [], _ :: _, _, _, h => by cases h
  | _ :: _, [], _, _, h => by cases h
theorem pgdTup {is : List Nat} {k : Nat} (hc : X.calm = true) (h : PGDs X H0 es is) (hn : (assignEach es X.env).length = is.length := by rfl) (hst : (assignEach es X.env).findIdx? (·.1) = none := by rfl) : PGD X H0 (.Tuple es k pos) (gT is) := ⟨pgWeak (pg_tup hc h.pgs hn hst) fun v σ H Q ⟨B, ρ, s, ρ', E, r, hh, q⟩ => by
  unfold gT itemsT at hh
  split at hh
  · rename_i ss hss
    split at hss
    · rename_i fr ds hd
      cases hss
      obtain ⟨p, vs, rfl, s1, a1⟩ := r.tup E.eB hd
      have hl := gSets_len hh
      rw [List.length_map] at hl
      exact ⟨p, vs, rfl, s1, by rw [a1.length, hl], B, ρ, _, ρ', E, rzs_map a1, hh, q⟩
    · cases hss
  · cases hh⟩
def sUnp (is : List Nat) (f : EF) : SF := fun ρ => bSz (f ρ) ρ fun s => match gT is s ρ with
  | some ρ' => some (.nx ρ')
  | none => none
theorem psdUnp {is : List Nat} {tg : Expr} (he : PD X H0 W e f) (hg : PGD X H0 tg (gT is)) (hs : swapsWithSole [tg] e pos.line X.env = pure false := by rfl) (hw : swappedStores [tg] e X.env = pure none := by rfl) (h1 : (assignEach [tg] X.env).map (·.2) = [assign tg X.env] := by rfl) :
    PSD X H0 W (.Assign [tg] e pos) (sUnp is f) := ⟨psWeak (ps_asg he.z hg.pg hs hw h1) fun D σ H ⟨B, ρ, o, E, h, ho⟩ => ⟨B, ρ, E, bSz_ok E h ho fun s v B' H' n r q ho' => by
  split at q
  · rename_i ρ' hr
    cases q
    exact ⟨B', ρ, s, ρ', E.nx n, r, hr, fun σ' E2 => ho' σ' B' H' E2 (Same.refl _)⟩
  · cases q⟩⟩
inductive Ri where
  | ok (its : List Sl)
  | ex (n : Str)
abbrev IF := Ev → Option Ri
structure ItOk (K : PySem.W.Frag) (H0 : En) (B : Hp) (J : It) (its : List Sl) : Prop where
  go : ∀ i B' H', Same B B' → Same B' H' → i < its.length → J.go i H'
  yld : ∀ i B' H' x H'' s, Same B B' → Same B' H' → Same H0.H H' → its[i]? = some s → J.yld i H' x H'' → ∃ B'', Nx B' H' B'' H'' ∧ RZ K H0 B'' H'' x s
  stop : ∀ i B' H', Same B B' → Same B' H' → its.length ≤ i → J.stop i H'
def tI (K : PySem.W.Frag) (mg : Str → Option Value) (H0 : En) (W : WX) (g : IF) : TI := fun σ H R => ∃ B ρ, ER K H0 B H σ ρ ∧
  ((∃ its, g ρ = some (.ok its) ∧ ∀ J B' H', Nx B H B' H' → ItOk K H0 B' J its → R J H') ∨ ∃ n, g ρ = some (.ex n) ∧ KX mg B H σ W n)
structure PID (X : Cx) (H0 : En) (W : WX) (tg e : Expr) (g : IF) : Prop where
  pi : PI X tg e (tI X.K X.mg H0 W g)
/-- a frozen list's items -/
def iL (f : EF) : IF := fun ρ => match f ρ with
  | some (.ok s) => match frz s with
    | .val fr (.list ds) => some (.ok (ds.map (mkv fr)))
    | _ => none
  | some (.ex n) => some (.ex n)
  | none => none
theorem map_at {α β : Type} {f : α → β} {l : List α} {i : Nat} {b : β} (h : (l.map f)[i]? = some b) : ∃ a, l[i]? = some a ∧ b = f a := by
  rw [List.getElem?_map] at h
  cases q : l[i]? with
  | none => rw [q] at h; cases h
  | some a => rw [q] at h; exact ⟨a, rfl, (Option.some.inj h).symm⟩
theorem itl_ok {fr : Bool} {p : Addr} {vs : List V} {ds : List PyData} (s : SqL K B p vs) (r : RepAll (LF K H0 B fr) vs ds) : ItOk K H0 B (Itl K p) (ds.map (mkv fr)) where
  go := fun i B' H' h1 h2 hi => by
    rw [List.length_map, ← r.length] at hi
    exact ⟨vs, vs[i], Same.seq h2 (Same.seq h1 s), by simp [hi]⟩
  yld := fun i B' H' x H'' u h1 h2 h3 hu hy => by
    obtain ⟨rfl, hy⟩ := hy
    obtain ⟨d, hd, rfl⟩ := map_at hu
    obtain ⟨v, hv, rv⟩ := r.at hd
    have e := hy vs (Same.seq h2 (Same.seq h1 s))
    rw [hv] at e
    cases e
    exact ⟨B', Nx.refl h2, mkv_rep (H := H'') (rv.mono (LF.mono h1))⟩
  stop := fun i B' H' h1 h2 hi => by
    rw [List.length_map, ← r.length] at hi
    exact ⟨vs, Same.seq h2 (Same.seq h1 s), hi⟩
theorem LF.sq {fr : Bool} {p : Addr} {vs : List V} (h : LF K H0 B fr p (.lst vs)) : SqL K B p vs := by
  cases fr with
  | true => exact SqL.of (nw_same _ _ h)
  | false => exact h
theorem pidL {tg : Expr} (he : PD X H0 W e f) : PID X H0 W tg e (iL f) := ⟨piWeak (pi_list he.z) fun σ H R ⟨B, ρ, E, q⟩ => ⟨B, ρ, E, by
  unfold iL at q
  cases r : f ρ with
  | none => rw [r] at q; rcases q with ⟨s, h1, h2⟩ | ⟨m, h1, h2⟩ <;> cases h1
  | some o =>
    rw [r] at q
    cases o with
    | ex n =>
      rcases q with ⟨s, h1, h2⟩ | ⟨m, h1, h2⟩
      · cases h1
      · cases h1; exact .inr ⟨n, rfl, h2⟩
    | ok s =>
      refine .inl ⟨s, rfl, fun v B1 H1 n1 r1 => ?_⟩
      dsimp only at q
      split at q
      · rename_i fr ds hz
        rw [hz] at r1
        obtain ⟨p, vs, rfl, s1, a1⟩ := Rep.lstV r1
        rcases q with ⟨its, h1, h2⟩ | ⟨m, h1, h2⟩
        · cases h1
          exact ⟨p, rfl, ⟨vs, LF.toH n1.bh p _ s1⟩, h2 _ B1 H1 n1 (itl_ok (LF.sq s1) a1)⟩
        · cases h1
      · rcases q with ⟨s, h1, h2⟩ | ⟨m, h1, h2⟩ <;> cases h1⟩⟩
/-- lo, lo + 1, .. below hi -/
def rngI (lo hi : Int) : List Sl := (List.range (hi - lo).toNat).map fun (i : Nat) => .val true (.int (lo + (i : Int)))
theorem itr_ok (lo hi : Int) : ItOk K H0 B (Itr lo (hi - lo).toNat) (rngI lo hi) where
  go := fun i B' H' h1 h2 h => by unfold rngI at h; rw [List.length_map, List.length_range] at h; exact h
  yld := fun i B' H' x H'' s h1 h2 h3 hu hy => by
    obtain ⟨rfl, rfl⟩ := hy
    obtain ⟨j, hj, rfl⟩ := map_at hu
    have : j = i := by
      obtain ⟨h, e⟩ := List.getElem?_eq_some_iff.mp hj
      rw [List.getElem_range] at e; exact e.symm
    subst this
    exact ⟨B', Nx.refl h2, .int _⟩
  stop := fun i B' H' h1 h2 h => by unfold rngI at h; rw [List.length_map, List.length_range] at h; exact h
noncomputable def small62 (i : Int) : Bool := cd (-(4611686018427387904) ≤ i ∧ i < 4611686018427387904)
noncomputable def iR (fs : List EF) : IF := fun ρ => match evs fs ρ with
  | some (.ok ss) => match ss.map dat with
    | [some (.int j)] => if small62 j = true then some (.ok (rngI 0 j)) else none
    | [some (.int i), some (.int j)] => if small62 i = true ∧ small62 j = true then some (.ok (rngI i j)) else none
    | _ => none
  | some (.ex n) => some (.ex n)
  | none => none
theorem small_ok {i : Int} (h : small62 i = true) : -(2 ^ 62) ≤ i ∧ i < 2 ^ 62 := by have := of_cd h; simpa using this
theorem ir_ok {fs : List EF} {R : It → Hp → Prop} (E : ER K H0 B H σ ρ) (q : (∃ its, iR fs ρ = some (.ok its) ∧ ∀ J B' H', Nx B H B' H' → ItOk K H0 B' J its → R J H') ∨ ∃ n, iR fs ρ = some (.ex n) ∧ KX mg B H σ W n) :
    OKA K mg H0 W B H σ (evs fs ρ) fun vs H1 => (∃ j : Int, vs = [.int j] ∧ small62 j = true ∧ R (Itr 0 j.toNat) H1) ∨ ∃ i j : Int, vs = [.int i, .int j] ∧ small62 i = true ∧ small62 j = true ∧ R (Itr i (j - i).toNat) H1 := by
  unfold iR at q
  cases r : evs fs ρ with
  | none => rw [r] at q; rcases q with ⟨s, h1, h2⟩ | ⟨m, h1, h2⟩ <;> cases h1
  | some o =>
    rw [r] at q
    cases o with
    | ex n =>
      rcases q with ⟨s, h1, h2⟩ | ⟨m, h1, h2⟩
      · cases h1
      · cases h1; exact .inr ⟨n, rfl, h2⟩
    | ok ss =>
      refine .inl ⟨ss, rfl, fun vs B1 H1 n1 rs => ?_⟩
      dsimp only at q
      split at q
      · rename_i j hj
        split at q
        · rename_i hs
          rcases q with ⟨its, h1, h2⟩ | ⟨m, h1, h2⟩
          · cases h1
            cases rs with
            | nil => cases hj
            | cons r1 rs =>
              cases rs with
              | cons _ _ => simp at hj
              | nil =>
                simp only [List.map_cons, List.map_nil, List.cons.injEq, and_true] at hj
                refine .inl ⟨j, by rw [(r1.data n1.bh hj).intV], hs, ?_⟩
                have := h2 _ B1 H1 n1 (itr_ok 0 j)
                simpa using this
          · cases h1
        · rcases q with ⟨s, h1, h2⟩ | ⟨m, h1, h2⟩ <;> cases h1
      · rename_i i j hj
        split at q
        · rename_i hs
          rcases q with ⟨its, h1, h2⟩ | ⟨m, h1, h2⟩
          · cases h1
            cases rs with
            | nil => cases hj
            | cons r1 rs =>
              cases rs with
              | nil => simp at hj
              | cons r2 rs =>
                cases rs with
                | cons _ _ => simp at hj
                | nil =>
                  simp only [List.map_cons, List.map_nil, List.cons.injEq, and_true] at hj
                  exact .inr ⟨i, j, by rw [(r1.data n1.bh hj.1).intV, (r2.data n1.bh hj.2).intV], hs.1, hs.2, h2 _ B1 H1 n1 (itr_ok i j)⟩
          · cases h1
        · rcases q with ⟨s, h1, h2⟩ | ⟨m, h1, h2⟩ <;> cases h1
      · rcases q with ⟨s, h1, h2⟩ | ⟨m, h1, h2⟩ <;> cases h1
theorem pidR1 {tg : Expr} {p : Pos} (hm : X.mg "range" = none) (ha : PDs X H0 W [a] [f]) (hg : Gl X "range" := by rfl) (hs : starEach [a] X.env = [(false, eval a X.env)] := by rfl) : PID X H0 W tg (.Call (.Name "range" p) [a] [] pos) (iR [f]) := ⟨piWeak (pi_range1 hg hm ha.pa hs) fun σ H R ⟨B, ρ, E, q⟩ => ⟨B, ρ, E, by
  have z := ir_ok E q
  have one : ∀ ss, evs [f] ρ = some (.ok ss) → ss.length = 1 := fun ss h => by
    unfold evs at h
    split at h
    · unfold evs at h; cases h; rfl
    · cases h
    · cases h
  rcases z with ⟨ss, h1, h2⟩ | ⟨n, h1, h2⟩
  · refine .inl ⟨ss, h1, fun vs B' H' n rs => ?_⟩
    rcases h2 vs B' H' n rs with ⟨j, e, s, r⟩ | ⟨i, j, e, s, s', r⟩
    · exact ⟨j, e, (small_ok s).1, (small_ok s).2, r⟩
    · exfalso
      have l1 := one ss h1
      subst e
      cases rs with
      | cons _ rs => cases rs with
        | cons _ rs => cases rs; simp at l1
  · exact .inr ⟨n, h1, h2⟩⟩⟩
theorem pidR2 {tg : Expr} {p : Pos} (hm : X.mg "range" = none) (ha : PDs X H0 W [a, b] [f, g]) (hg : Gl X "range" := by rfl) (hs : starEach [a, b] X.env = [(false, eval a X.env), (false, eval b X.env)] := by rfl) (hs2 : starEach [b] X.env = [(false, eval b X.env)] := by rfl) : PID X H0 W tg (.Call (.Name "range" p) [a, b] [] pos) (iR [f, g]) := ⟨piWeak (pi_range2 hg hm ha.pa hs hs2) fun σ H R ⟨B, ρ, E, q⟩ => ⟨B, ρ, E, by
  have z := ir_ok E q
  have two : ∀ ss, evs [f, g] ρ = some (.ok ss) → ss.length = 2 := fun ss h => by
    unfold evs at h
    split at h
    · split at h
      · rename_i ss' h'
        cases h
        unfold evs at h'
        split at h'
        · unfold evs at h'; cases h'; rfl
        · cases h'
        · cases h'
      · rename_i hno; exact absurd h (hno ss)
    · cases h
    · cases h
  rcases z with ⟨ss, h1, h2⟩ | ⟨n, h1, h2⟩
  · refine .inl ⟨ss, h1, fun vs B' H' n rs => ?_⟩
    rcases h2 vs B' H' n rs with ⟨j, e, s, r⟩ | ⟨i, j, e, s, s', r⟩
    · exfalso
      have l1 := two ss h1
      subst e
      cases rs with
      | cons _ rs => cases rs; simp at l1
    · exact ⟨i, j, e, ⟨(small_ok s).1, (small_ok s).2, (small_ok s').1, (small_ok s').2⟩, r⟩
  · exact .inr ⟨n, h1, h2⟩⟩⟩
end
end PL
namespace PL
open PySem PySem.Spec PyProof.Rows L2
structure FG (P : Program) (w : World) (K : PySem.W.Frag) (mg : Str → Option Value) (base : Heap) (k : Nat) (f : Addr) (fd : FuncData) (ps : List Str) (sp : Sp) : Prop where
  len : ∀ vs H Q E, sp vs H Q E → vs.length = ps.length
  go : ∀ (A : Around) (outer : List Env) (s : Shared) (H : Hp) (args : Args) (us : List Value) (vs : List V) (Q : VK) (E : XK), Room k A → A.guards = some [] → Env0 P w K mg base A outer s H → BindsTo s fd args (ps.zip us) → Vals vs us → sp vs H Q E →
    codeAny (model P w) A (.call (.ref f) args) (CR (L2.CX P w) outer P w H s Q E) s
section
variable {P : Program} {w : World} {K : PySem.W.Frag} {mg : Str → Option Value} {base : Heap} {k : Nat} {f : Addr} {fd : FuncData} {ps N : List Str} {sp sp' : Sp}
theorem FG.mono (h : FG P w K mg base k f fd ps sp) {j : Nat} (hj : k ≤ j) : FG P w K mg base j f fd ps sp := ⟨h.len, fun A o s H a us vs Q E r g e b v q => h.go A o s H a us vs Q E (r.mono hj) g e b v q⟩
theorem FG.imp (h : FG P w K mg base k f fd ps sp) (i : ∀ vs H Q E, sp' vs H Q E → sp vs H Q E) : FG P w K mg base k f fd ps sp' :=
  ⟨fun vs H Q E q => h.len vs H Q E (i _ _ _ _ q), fun A o s H a us vs Q E r g e b v q => h.go A o s H a us vs Q E r g e b v (i _ _ _ _ q)⟩
/-- a def of the text, by its body -/
theorem FG.of {x qual : Str} {st : Stmt} (Fn : Fun K x qual st f fd) (S : FnScope N ps (defScope st)) (len : ∀ vs H Q E, sp vs H Q E → vs.length = ps.length)
    (hb : ∀ (cdv : Value) (A : Around) (outer : List Env) (s : Shared) (H : Hp) (vs : List V) (Q : VK) (E : XK), Room k (A.deeper (envOfC qual (defScope st) s.heap.objs.size f cdv)) → (A.deeper (envOfC qual (defScope st) s.heap.objs.size f cdv)).guards = some [] → sp vs H Q E →
      ∃ t, PSs (cxOf (L2.CX P w) P w K mg base N qual (defScope st) f cdv A outer s H E) (defBody st) t ∧ t { nx := fun _ H' => Q .non H', rt := Q } (start N vs) H) : FG P w K mg base (k + 1) f fd ps sp := by
  obtain ⟨oc, od, kV, doc, pm, an, cdv, ct, osl, e1, lk, hcd⟩ := Fn.ex
  subst e1
  refine ⟨len, fun A outer s H args us vs Q E hr hg e0 hbd rv hsp => ?_⟩
  have hlen := len vs H Q E hsp
  have KX : K.In s.heap := e0.mod.kin.keeps fun b o e => (e0.bs b o e).1
  have lim := e0.mod.nolimit.keeps (h' := s.heap) fun b o e => (e0.bs b o e).1
  have kinds : ∀ y ∈ ps.zip us, (defScope st).names.lookup y.1 = some .local ∨ ((defScope st).names.lookup y.1 = some .cell ∧ ((cellsFrom (s.heap.objs.size + 1) (defScope st).names []).lookup y.1).isSome = true) := by
    intro ⟨n, v⟩ hy
    rcases S.par n (List.of_mem_zip hy).1 with q | q
    · left; exact q
    · right; exact ⟨q, PySem.W.cellsFrom_some _ _ _ (.inl q)⟩
  refine codeAny_call_function hr.depth (KX _ _ lk) rfl S.co S.gen rfl (PySem.W.codeRec_of KX hcd) (hbd _ _ _ _ ?_)
  refine wpAny_newFunctionEnv_cells S.kind kinds fun env he s1 x => ?_
  subst he
  refine ⟨lim.keeps x.toInCall.keep, codeAny_func ?_⟩
  obtain ⟨t, ht, hq⟩ := hb cdv A outer s H vs Q E (hr.deeper _) hg hsp
  have I := inv_start (CX := L2.CX P w) (qual := qual) (f := f) (cd := cdv) (outer := outer) (E := E) S hr.hd e0 hlen rv x
  refine wpAny_mono (ht.run [] s1 (start N vs) H _ I hq) (fun fl s' hs => ?_) fun e s' hs => hs
  cases fl with
  | brk => obtain ⟨_, _, _, z⟩ := hs; exact z.elim
  | cont => obtain ⟨_, _, _, z⟩ := hs; exact z.elim
  | ret u => obtain ⟨v, σ', H', J, r', z⟩ := hs; exact ⟨v, H', J.os, J.bare, J.base, J.hok, r', z⟩
  | next => obtain ⟨σ', H', J, z⟩ := hs; exact ⟨.non, H', J.os, J.bare, J.base, J.hok, rfl, z⟩
end
inductive FR where
  | ret (fr : Bool) (d : PyData)
  | exc (n : Str)
abbrev FN := List PyData → Option FR
def FROk (K : PySem.W.Frag) (mg : Str → Option Value) (B H : Hp) (Q : VK) (E : XK) : FR → Prop
  | .ret true d => ∀ v H' N, Same H H' → Same N H' → (∀ a, N a ≠ none → H a = none) → Rep (LN N) v d → Q v H'
  | .ret false d => ∀ v B' H', Nx B H B' H' → Rep (LH K B') v d → Q v H'
  | .exc n => ∀ c H', mg n = some c → Same H H' → E c none H'
def spD (K : PySem.W.Frag) (mg : Str → Option Value) (n : Nat) (F : FN) : Sp := fun vs H Q E => vs.length = n ∧ ∃ B ds r, Same B H ∧ RepAll (LH K B) vs ds ∧ F ds = some r ∧ FROk K mg B H Q E r
def entS (d : PyData) : Sl := .val (scal d) d
def entE (n : Nat) (ds : List PyData) : Ev := ds.map entS ++ List.replicate (n - ds.length) .und
def frOf : Sl → Option FR
  | .val fr d => some (.ret (fr || scal d) d)
  | .own fr ds => some (.ret fr (.list ds))
  | .full d => some (.ret true d)
  | _ => none
/-- the body as a function on data: n slots -/
def callF (n : Nat) (F : SF) : FN := fun ds => match F (entE n ds) with
  | some (.nx _) => some (.ret true .none)
  | some (.rt s) => frOf s
  | some (.ex m _) => some (.exc m)
  | _ => none
section
variable {P : Program} {w : World} {K : PySem.W.Frag} {mg : Str → Option Value} {base : Heap} {k : Nat} {f : Addr} {fd : FuncData} {ps N : List Str} {B H : Hp}
theorem entry_er {vs : List V} {ds : List PyData} (n : Nat) (e : Same B H) (r : RepAll (LH K B) vs ds) (hn : ds.length ≤ n) (hN : N.length = n) : ER K ⟨H, B, 0, fun _ => False⟩ B H (start N vs) (entE n ds) := by
  have hl := r.length
  refine ⟨Same.refl _, Same.refl _, fun a h1 h2 => h2, e, ?_, fun _ => emp, ⟨fun i a o q => (nomatch q), fun i a q => absurd rfl q, fun i j a _ q => absurd rfl q, fun i s hs => ?_⟩⟩
  · unfold L2.start entE
    rw [List.length_append, List.length_append, List.length_map, List.length_map, List.length_replicate, List.length_replicate]
    omega
  · unfold entE at hs
    by_cases hi : i < ds.length
    · rw [List.getElem?_append_left (by rw [List.length_map]; exact hi)] at hs
      obtain ⟨d, hd, rfl⟩ := map_at hs
      obtain ⟨v, hv, rv⟩ := r.at hd
      refine ⟨v, ?_, ?_⟩
      · unfold L2.start
        rw [List.getElem?_append_left (by rw [List.length_map, hl]; exact hi), List.getElem?_map, hv]
        rfl
      · show Rep (LF K ⟨H, B, 0, fun _ => False⟩ B (scal d)) v d
        cases hsc : scal d with
        | true => exact Rep.scal rv hsc
        | false => exact rv
    · rw [List.getElem?_append_right (by rw [List.length_map]; omega), List.getElem?_replicate] at hs
      split at hs
      · cases hs; trivial
      · cases hs
theorem ret_ok {s : Sl} {r : FR} {v : V} {σ : L2.St} {ρ : Ev} {B' H' T : Hp} {Q : VK} {E : XK} (hf : frOf s = some r) (h : FROk K mg B H Q E r) (e : ER K ⟨H, B, 0, fun _ => False⟩ B' H' σ ρ) (t1 : Same T H') (t2 : ∀ a, T a ≠ none → B' a = none ∧ H a = none) (rr : RR K ⟨H, B, 0, fun _ => False⟩ B' H' T v s) : Q v H' := by
  have nxx : Nx B H B' H' := ⟨e.b0, e.eB, e.e0, fun a h1 h2 => e.n0 a h2 h1⟩
  have nwH : Same (nw H B') H' := fun a o q => e.eB a o (nw_some q).2
  have nwF : ∀ a, nw H B' a ≠ none → H a = none := fun a q => by
    cases z : nw H B' a with
    | none => exact absurd z q
    | some o => exact (nw_some z).1
  have freshRep : ∀ {v d}, Rep (LF K ⟨H, B, 0, fun _ => False⟩ B' true) v d → (∀ v H' N, Same H H' → Same N H' → (∀ a, N a ≠ none → H a = none) → Rep (LN N) v d → Q v H') → Q v H' := fun r q => q _ H' (nw H B') e.e0 nwH nwF r
  cases s with
  | und => cases hf
  | bor _ _ => cases hf
  | brf _ => cases hf
  | exn _ => cases hf
  | cel _ => cases hf
  | val fr d =>
    cases hf
    cases fr with
    | true => exact freshRep rr h
    | false =>
      rw [Bool.false_or] at h
      cases hs : scal d with
      | true => rw [hs] at h; exact freshRep (Rep.scal rr hs) h
      | false => rw [hs] at h; exact h v B' H' nxx rr
  | full d =>
    cases hf
    exact h v H' T e.e0 t1 (fun a q => (t2 a q).2) rr
  | own fr ds =>
    cases hf
    obtain ⟨p, vs, rfl, hp, ra⟩ := rr
    obtain ⟨g1, g2⟩ := t2 p (by rw [hp]; simp)
    cases fr with
    | true =>
      refine h (.ref p) H' (upd (nw H B') p (.lst vs)) e.e0 (same_upd2 nwH (t1 _ _ hp)) (fun a q => ?_) (.lst upd_same (ra.mono (LN.mono (same_upd ?_))))
      · by_cases ha : a = p
        · subst ha; exact g2
        · rw [upd_ne ha] at q; exact nwF a q
      · cases z : nw H B' p with
        | none => rfl
        | some o => rw [(nw_some z).2] at g1; cases g1
    | false =>
      have s1 : Same B' (upd B' p (.lst vs)) := same_upd g1
      refine h (.ref p) (upd B' p (.lst vs)) H' ⟨e.b0.trans s1, same_upd2 e.eB (t1 _ _ hp), e.e0, fun a q1 q2 => ?_⟩ (.lst (SqL.of upd_same) (ra.mono (LH.mono s1)))
      rw [upd_ne (fun z => by subst z; exact q2 g2)]
      exact e.n0 a q2 q1
/-- THE RULE: a def keeps the promise that its body's function makes -/
theorem FG.body {x qual : Str} {st : Stmt} {F : SF} (Fn : Fun K x qual st f fd) (S : FnScope N ps (defScope st))
    (hb : ∀ (cdv : Value) (A : Around) (outer : List Env) (s : Shared) (H B : Hp) (E : XK), Room k (A.deeper (envOfC qual (defScope st) s.heap.objs.size f cdv)) → (A.deeper (envOfC qual (defScope st) s.heap.objs.size f cdv)).guards = some [] →
      PSDs (cxOf (L2.CX P w) P w K mg base N qual (defScope st) f cdv A outer s H E) ⟨H, B, 0, fun _ => False⟩ (fun c d _ H => E c d H) (defBody st) F) : FG P w K mg base (k + 1) f fd ps (spD K mg ps.length (callF N.length F)) := by
  refine FG.of Fn S (fun vs H Q E h => h.1) fun cdv A outer s H vs Q E hr hg ⟨hl, B, ds, r, e, ra, hF, hok⟩ => ?_
  refine ⟨_, (hb cdv A outer s H B E hr hg).pss, B, entE N.length ds, ?_⟩
  have hpl : ps.length ≤ N.length := by have := congrArg List.length S.pre; rw [List.length_take] at this; omega
  have hle : ds.length ≤ N.length := by rw [← ra.length, hl]; exact hpl
  have E0 := entry_er (N := N) N.length e ra hle rfl
  unfold callF at hF
  split at hF
  · rename_i ρ' hr'
    cases hF
    exact ⟨_, E0, hr', fun σ' B' H' E' s' => hok .non H' emp E'.e0 (fun _ _ z => nomatch z) (fun _ z => absurd rfl z) .non⟩
  · rename_i s' hr'
    exact ⟨_, E0, hr', fun v σ' ρ' B' H' T E' s'' t1 t2 rr => ret_ok hF hok E' t1 t2 rr⟩
  · rename_i n ρ' hr'
    cases hF
    exact ⟨_, E0, hr', fun c σ' B' H' hc E' s'' => hok c H' hc E'.e0⟩
  · cases hF
/-- a promise by another function -/
theorem FG.fn {n : Nat} {F G : FN} (h : FG P w K mg base k f fd ps (spD K mg n F)) (i : ∀ ds r, G ds = some r → F ds = some r) : FG P w K mg base k f fd ps (spD K mg n G) :=
  h.imp fun vs H Q E ⟨hl, B, ds, r, e, ra, hG, hok⟩ => ⟨hl, B, ds, r, e, ra, i ds r hG, hok⟩
end
def isVal : Sl → Bool
  | .val _ _ => true
  | _ => false
def dats : List Sl → Option (List PyData)
  | [] => some []
  | s :: ss => match dat s with
    | some d => match dats ss with
      | some ds => some (d :: ds)
      | none => none
    | none => none
def cRes (F : FN) (ss : List Sl) : Option Rs := match dats ss with
  | some ds => match F ds with
    | some (.ret true d) => some (.ok (if scal d = true then .val true d else .full d))
    | some (.ret false d) => if ss.all isVal = true then some (.ok (.val false d)) else none
    | some (.exc n) => some (.ex n)
    | none => none
  | none => none
def eCall (F : FN) (fs : List EF) : EF := fun ρ => bzs (evs fs ρ) fun ss => cRes F ss
section
variable {X : Cx} {H0 : En} {W : WX} {e a b c : Expr} {es : List Expr} {fs : List EF} {pos p : Pos} {K : PySem.W.Frag} {B H B' H' : Hp} {σ : L2.St} {mg : Str → Option Value} {ρ : Ev} {k n : Nat} {f : Addr} {fd : FuncData} {ps : List Str} {x : Str} {F : FN}
theorem RZs.datsH : ∀ {vs : List V} {ss : List Sl} {ds : List PyData}, Same B H → RZs K H0 B H vs ss → dats ss = some ds → RepAll (LH K H) vs ds
  | _, _, _, _, .nil, h => by cases h; exact .nil
  | _, _, ds, eB, .cons (s := s) (ss := ss) r rs, h => by
    unfold dats at h
    split at h
    · rename_i d hd
      split at h
      · rename_i ds' hds
        cases h
        exact .cons (r.data eB hd) (RZs.datsH eB rs hds)
      · cases h
    · cases h
theorem RZs.datsB : ∀ {vs : List V} {ss : List Sl} {ds : List PyData}, RZs K H0 B H vs ss → ss.all isVal = true → dats ss = some ds → RepAll (LH K B) vs ds
  | _, _, _, .nil, _, h => by cases h; exact .nil
  | _, _, ds, .cons (s := s) (ss := ss) r rs, ha, h => by
    rw [List.all_cons, Bool.and_eq_true] at ha
    unfold dats at h
    split at h
    · rename_i d hd
      split at h
      · rename_i ds' hds
        cases h
        cases s with
        | val fr d' => cases hd; exact .cons (Rep.mono (LF.toH (Same.refl _)) r) (RZs.datsB rs ha.2 hds)
        | _ => cases ha.1
      · cases h
    · cases h
theorem runFG {pins : List (Addr × Obj)} {s : Shared} {Q : VK} {us : List Value} {vs : List V} {sp : Sp} (Fn : FG X.prog X.w X.K X.mg X.base k f fd ps sp) (hr : Room k X.A) (hg : X.A.guards = some []) (hb : Binds X.K fd ps []) (tk : Takes X W)
    (I : Inv X pins σ H s) (r : Vals vs us) (h : sp vs H Q (WE W σ)) : wpAny (model X.prog X.w) X.A (call (.ref f) us) (EP X pins σ Q) X.xe s := by
  have hl : us.length = ps.length := r.length.symm.trans (Fn.len _ _ _ _ h)
  have bnd := hb s us I.kIn (by simpa using hl)
  rw [List.append_nil] at bnd
  refine wpAny_call (codeAny_mono (Fn.go X.A X.stack s H ⟨us, []⟩ us vs Q (WE W σ) hr hg I.env0 bnd r h) fun res s' hq => ?_)
  match res, hq with
  | .ok (.ret u), hq => exact I.after hq
  | .ok .next, hq => exact hq.elim
  | .ok .brk, hq => exact hq.elim
  | .ok .cont, hq => exact hq.elim
  | .error e, hq => exact passAt tk σ pins H s e s' I hq
theorem peCallG {sp : Sp} {t : TA} (Fn : FG X.prog X.w X.K X.mg X.base k f fd ps sp) (hr : Room k X.A) (hgd : X.A.guards = some []) (hg : Gl X x) (hm : X.mg x = some (.ref f)) (hk : PySem.W.keepIn X.K (.ref f) = true) (hb : Binds X.K fd ps []) (tk : Takes X W) (ha : PA X (e :: es) t)
    (hdb : (x == ("__debug__" : Str)) = false := by decide) (he : starEach (e :: es) X.env = (false, eval e X.env) :: starEach es X.env := by rfl) (hpl : (backTo pos (starEach es X.env)).any (·.1) = false := by rfl) :
    PE X (.Call (.Name x p) (e :: es) [] pos) (fun σ H Q => t σ H fun vs H1 => sp vs H1 Q (WE W σ)) := ⟨fun pins s σ H Q I h => by
  refine wpAny_Call_Name_kw (ld_glob I hg hm (PySem.W.callWith_K (h₀ := X.base) I.ok.mod.kin hk ?_ he hpl) hdb)
  exact thn (ha.run pos pins s σ H _ I h) fun us s1 ⟨vs, H1, I1, r, q⟩ => ⟨I1.kIn, runFG Fn hr hgd hb tk I1 r q⟩⟩
theorem call_out {ss : List Sl} {vs : List V} {Q : VK} (E : ER K H0 B H σ ρ) (rs : RZs K H0 B H vs ss) (hn : vs.length = n) (q : OK K mg H0 W B H σ (cRes F ss) Q) : spD K mg n F vs H Q (WE W σ) := by
  refine ⟨hn, ?_⟩
  unfold cRes at q
  split at q
  · rename_i ds hd
    split at q
    · rename_i d hF
      refine ⟨H, ds, _, Same.refl _, rs.datsH E.eB hd, hF, fun v H' N s1 s2 s3 r => ?_⟩
      rcases q with ⟨s, h1, h2⟩ | ⟨m, h1, h2⟩
      · cases h1
        have nn : Nx B H B H' := ⟨Same.refl _, E.eB.trans s1, s1, fun _ h _ => h⟩
        split at h2
        · rename_i hs
          exact h2 v B H' emp nn TF.emp (Rep.scal r hs)
        · exact h2 v B H' N nn ⟨s2, fun a ha => ⟨s3 a ha, E.eB.free (s3 a ha)⟩⟩ r
      · cases h1
    · rename_i d hF
      split at q
      · rename_i hv
        refine ⟨B, ds, _, E.eB, rs.datsB hv hd, hF, fun v B' H' nn r => ?_⟩
        rcases q with ⟨s, h1, h2⟩ | ⟨m, h1, h2⟩
        · cases h1
          exact h2 v B' H' emp nn TF.emp r
        · cases h1
      · exact (okNone q).elim
    · rename_i m hF
      refine ⟨H, ds, _, Same.refl _, rs.datsH E.eB hd, hF, fun c H' hc s1 => ?_⟩
      rcases q with ⟨s, h1, h2⟩ | ⟨m', h1, h2⟩
      · cases h1
      · cases h1
        exact h2 c B H' hc ⟨Same.refl _, E.eB.trans s1, s1, fun _ h _ => h⟩
    · exact (okNone q).elim
  · exact (okNone q).elim
theorem RZs.len : ∀ {vs : List V} {ss : List Sl}, RZs K H0 B H vs ss → vs.length = ss.length
  | _, _, .nil => rfl
  | _, _, .cons _ rs => congrArg (· + 1) rs.len
theorem evs_len : ∀ {fs : List EF} {ρ : Ev} {ss : List Sl}, evs fs ρ = some (.ok ss) → ss.length = fs.length
  | [], _, _, h => by cases h; rfl
  | f :: fs, ρ, ss, h => by
    unfold evs at h
    split at h
    · split at h
      · rename_i ss' hss
        cases h
        exact congrArg (· + 1) (evs_len hss)
      · rename_i hno; exact absurd h (hno ss)
    · cases h
    · cases h
/-- f(e, ..) -/
theorem pdCall (Fn : FG X.prog X.w X.K X.mg X.base k f fd ps (spD X.K X.mg n F)) (hr : Room k X.A) (hgd : X.A.guards = some []) (hm : X.mg x = some (.ref f)) (hk : PySem.W.keepIn X.K (.ref f) = true) (hb : Binds X.K fd ps []) (tk : Takes X W) (ha : PDs X H0 W (e :: es) fs) (hn : fs.length = n := by rfl) (hg : Gl X x := by rfl)
    (hdb : (x == ("__debug__" : Str)) = false := by decide) (he : starEach (e :: es) X.env = (false, eval e X.env) :: starEach es X.env := by rfl) (hpl : (backTo pos (starEach es X.env)).any (·.1) = false := by rfl) :
    PD X H0 W (.Call (.Name x p) (e :: es) [] pos) (eCall F fs) := ⟨peWeak (peCallG Fn hr hgd hg hm hk hb tk ha.pa hdb he hpl) fun σ H Q ⟨B, ρ, E, q⟩ => ⟨B, ρ, E, by
  have q' : OK X.K X.mg H0 W B H σ (bzs (evs fs ρ) fun ss => cRes F ss) Q := q
  cases r : evs fs ρ with
  | none => rw [r] at q'; exact (okNone q').elim
  | some o =>
    rw [r] at q'
    cases o with
    | ex m =>
      rcases q' with ⟨s, h1, h2⟩ | ⟨m', h1, h2⟩
      · cases h1
      · cases h1; exact .inr ⟨m, rfl, h2⟩
    | ok ss =>
      refine .inl ⟨ss, rfl, fun vs B1 H1 n1 rs => ?_⟩
      exact call_out (E.nx n1) rs (by rw [rs.len, evs_len r, hn]) (OK.nx q' n1)⟩⟩
end
section
variable {X : Cx} {H0 : En} {W : WX} {K : PySem.W.Frag} {B H B' H' : Hp} {σ : L2.St} {mg : Str → Option Value} {ρ : Ev}
abbrev W0 : WX := fun _ _ _ _ => False
def lcL (t : GF) (tt : BF) (elt : EF) (ρ : Ev) : List Sl → Option (Bool × List PyData)
  | [] => some (true, [])
  | s :: ss => match t s ρ with
    | none => none
    | some ρ1 => match tt ρ1 with
      | some (.ok true) => match elt ρ1 with
        | some (.ok x) => match stor (frz x) with
          | some (f, d) => match lcL t tt elt ρ ss with
            | some (g, ds) => some (f && g, d :: ds)
            | none => none
          | none => none
        | _ => none
      | some (.ok false) => lcL t tt elt ρ ss
      | _ => none
def eLc (g : IF) (own : List Nat) (t : GF) (tt : BF) (elt : EF) : EF := fun ρ => match g ρ with
  | some (.ok its) => match lcL t tt elt (wipeE ρ own) its with
    | some (fr, ds) => if ds.length ≤ 16777216 then some (.ok (.own fr ds)) else none
    | none => none
  | some (.ex n) => some (.ex n)
  | none => none
def bYes : BF := fun _ => some (.ok true)
structure PBs (X : Cx) (H0 : En) (W : WX) (ifs : List Expr) (f : BF) : Prop where
  pts : PTs X ifs (tT X.K X.mg H0 W f)
theorem pbsNil : PBs X H0 W [] bYes := ⟨⟨fun pins s σ H Q I ⟨B, ρ, E, q⟩ => (pts_nil (X := X)).run pins s σ H Q I (by
  rcases q with ⟨b, h1, h2⟩ | ⟨m, h1, h2⟩
  · cases h1; exact h2 B H E.nx0
  · cases h1)⟩⟩
theorem pbsOne {c : Expr} {f : BF} (h : PB X H0 W c f) : PBs X H0 W [c] f := ⟨pts_one h.pt⟩
/-- a cell that is no slot's -/
theorem ff_upd {F : Nat → Hp} {D : Addr} {o : HO} (h : FF K H0 B H σ ρ F) (hB : B D = none) (hF : ∀ i, F i D = none) : FF K H0 B (upd H D o) σ ρ F :=
  ⟨fun i a u q => by rw [upd_ne (fun z => by subst z; rw [hF i] at q; cases q)]; exact h.1 i a u q, h.2.1, h.2.2.1, h.2.2.2⟩
theorem same_updD {B H : Hp} {D : Addr} {o : HO} (e : Same B H) (hB : B D = none) : Same B (upd H D o) := fun a u q => by
  rw [upd_ne (fun z => by subst z; rw [hB] at q; cases q)]; exact e a u q
theorem lc_ok {J : It} {its : List Sl} {g : TG} {tt : TT} {te : TE} {own : List Nat} {t : GF} {bt : BF} {elt : EF} {fr : Bool} {ds : List PyData} {Q : VK} {W' : WX} (E : ER K H0 B H σ ρ) (I1 : ItOk K H0 B J its)
    (hg : ∀ v σ H Q, tG K H0 t v σ H Q → g v σ H Q) (htt : ∀ σ H Q, tT K mg H0 W0 bt σ H Q → tt σ H Q) (hte : ∀ σ H Q, tZ K mg H0 W0 elt σ H Q → te σ H Q)
    (hgs : ∀ {v H} {R : L2.St → Hp → Prop}, g v (L2.wipe σ own) H R → g v (L2.wipe σ own) H fun σ' H' => L2.wipe σ' own = L2.wipe σ own ∧ R σ' H')
    (h : lcL t bt elt (wipeE ρ own) its = some (fr, ds)) (hz : ds.length ≤ 16777216) (q : KQ K H0 B H (.own fr ds) Q) :
    ∀ D, H D = none → ∃ Wv : Nat → Nat → Hp → Prop, (∃ m, Wv 0 m (upd H D (.lst []))) ∧ ∀ i m H, Wv i m H →
      (J.stop i H ∧ Q (.ref D) H) ∨ (J.go i H ∧ ∃ Nx : Hp → Prop, (∀ H', Nx H' → ∃ m', m' < m ∧ Wv (i + 1) m' H') ∧ ∀ x H', J.yld i H x H' → g x (L2.wipe σ own) H' fun σ2 H2 => L2.wipe σ2 own = L2.wipe σ own ∧ tt σ2 H2 fun b H3 =>
        if b = true then te σ2 H3 fun y H4 => ∃ acc, H4 D = some (.lst acc) ∧ acc.length < sizeLine ∧ Nx (upd H4 D (.lst (acc ++ [y]))) else Nx H3) := by
  intro D hD
  obtain ⟨F, hF⟩ := E.ex
  have hBD : B D = none := E.eB.free hD
  have hFD : ∀ i, F i D = none := fun i => (hF.1 i).free hD
  have h0D : H0.H D = none := E.e0.free hD
  -- the word: what is left of the walk, behind i turns
  refine ⟨fun i m H2 => m = its.length - i ∧ i ≤ its.length ∧ ∃ B2 acc da fa rest, FF K H0 B2 H2 (L2.wipe σ own) (wipeE ρ own) F ∧ Same H0.H H2 ∧ Nx B H B2 H2 ∧ B2 D = none ∧ H2 D = some (.lst acc) ∧ RepAll (LF K H0 B2 fa) acc da ∧
    lcL t bt elt (wipeE ρ own) (its.drop i) = some rest ∧ fr = (fa && rest.1) ∧ ds = da ++ rest.2, ⟨_, rfl, Nat.zero_le _, B, [], [], true, (fr, ds), ?_, ?_, ?_, hBD, upd_same, .nil, h, rfl, rfl⟩, ?_⟩
  · exact ff_upd (hF.wipe own) hBD hFD
  · exact same_updD E.e0 h0D
  · exact ⟨Same.refl _, same_updD E.eB hBD, same_upd hD, fun _ z _ => z⟩
  rintro i m H2 ⟨rfl, hi, B2, acc, da, fa, rest, f2, e0, n2, b2, hacc, ra, hl, e1, e2⟩
  have eB2 : Same B2 H2 := n2.bh
  by_cases hlt : i < its.length
  · refine .inr ⟨I1.go i B2 H2 n2.b eB2 hlt, ?_⟩
    have hd : its.drop i = its[i] :: its.drop (i + 1) := List.drop_eq_getElem_cons hlt
    rw [hd] at hl
    unfold lcL at hl
    cases rt : t its[i] (wipeE ρ own) with
    | none => rw [rt] at hl; cases hl
    | some ρ1 =>
      rw [rt] at hl
      dsimp only at hl
      refine ⟨fun H' => ∃ B5 acc5 da5 fa5 rest5, FF K H0 B5 H' (L2.wipe σ own) (wipeE ρ own) F ∧ Same H0.H H' ∧ Nx B H B5 H' ∧ B5 D = none ∧ H' D = some (.lst acc5) ∧ RepAll (LF K H0 B5 fa5) acc5 da5 ∧
        lcL t bt elt (wipeE ρ own) (its.drop (i + 1)) = some rest5 ∧ fr = (fa5 && rest5.1) ∧ ds = da5 ++ rest5.2, fun H' ⟨B5, acc5, da5, fa5, rest5, z⟩ => ⟨_, by omega, rfl, hlt, B5, acc5, da5, fa5, rest5, z⟩, fun x H3 hy => ?_⟩
      obtain ⟨B3, n3, rz⟩ := I1.yld i B2 H2 x H3 its[i] n2.b eB2 e0 (List.getElem?_eq_getElem hlt) hy
      have f3 : FF K H0 B3 H3 (L2.wipe σ own) (wipeE ρ own) F := f2.nx n3
      have E3 : ER K H0 B3 H3 (L2.wipe σ own) (wipeE ρ own) := ⟨e0.trans n3.h, E.b0.trans (n2.b.trans n3.b), fun a h1 h2 => n3.no a (n2.no a (E.n0 a h1 h2) (PL.Same.ne E.e0 h1)) (PL.Same.ne e0 h1), n3.bh, by rw [L2.wipe_length, wipeE_len]; exact E.len, F, f3⟩
      have hD2 : H2 D ≠ none := by rw [hacc]; simp
      have b3 : B3 D = none := n3.no D b2 hD2
      have hD3 : H3 D = some (.lst acc) := n3.h _ _ hacc
      have goal : g x (L2.wipe σ own) H3 fun σ2 H4 => tt σ2 H4 fun b H5 =>
          if b = true then te σ2 H5 fun y H6 => ∃ acc', H6 D = some (.lst acc') ∧ acc'.length < sizeLine ∧ ∃ B5 acc5 da5 fa5 rest5, FF K H0 B5 (upd H6 D (.lst (acc' ++ [y]))) (L2.wipe σ own) (wipeE ρ own) F ∧ Same H0.H (upd H6 D (.lst (acc' ++ [y]))) ∧ Nx B H B5 (upd H6 D (.lst (acc' ++ [y]))) ∧ B5 D = none ∧ (upd H6 D (.lst (acc' ++ [y]))) D = some (.lst acc5) ∧ RepAll (LF K H0 B5 fa5) acc5 da5 ∧
            lcL t bt elt (wipeE ρ own) (its.drop (i + 1)) = some rest5 ∧ fr = (fa5 && rest5.1) ∧ ds = da5 ++ rest5.2
          else ∃ B5 acc5 da5 fa5 rest5, FF K H0 B5 H5 (L2.wipe σ own) (wipeE ρ own) F ∧ Same H0.H H5 ∧ Nx B H B5 H5 ∧ B5 D = none ∧ H5 D = some (.lst acc5) ∧ RepAll (LF K H0 B5 fa5) acc5 da5 ∧
            lcL t bt elt (wipeE ρ own) (its.drop (i + 1)) = some rest5 ∧ fr = (fa5 && rest5.1) ∧ ds = da5 ++ rest5.2 := by
        refine hg _ _ _ _ ⟨B3, _, its[i], ρ1, E3, rz, rt, fun σ2 E4 => htt _ _ _ ⟨B3, ρ1, E4, ?_⟩⟩
        have n23 := n2.trans n3
        cases rb : bt ρ1 with
        | none => rw [rb] at hl; cases hl
        | some ob =>
          rw [rb] at hl
          cases ob with
          | ex m => cases hl
          | ok b =>
            refine .inl ⟨b, rfl, fun B4 H4 n4 => ?_⟩
            have hD4 : H4 D = some (.lst acc) := n4.h _ _ hD3
            have b4 : B4 D = none := n4.no D b3 (by rw [hD3]; simp)
            cases b with
            | false =>
              dsimp only; rw [if_neg Bool.false_ne_true]
              exact ⟨B4, acc, da, fa, rest, f3.nx n4, (e0.trans n3.h).trans n4.h, n23.trans n4, b4, hD4, ra.mono (LF.mono (n3.b.trans n4.b)), hl, e1, e2⟩
            | true =>
              dsimp only; rw [if_pos rfl]
              dsimp only at hl
              refine hte _ _ _ ⟨B4, ρ1, E4.nx n4, ?_⟩
              cases re : elt ρ1 with
              | none => rw [re] at hl; cases hl
              | some oe =>
                rw [re] at hl
                cases oe with
                | ex m => cases hl
                | ok xx =>
                  refine .inl ⟨xx, rfl, fun v B5 H5 n5 rz5 => ?_⟩
                  dsimp only at hl
                  split at hl
                  · rename_i f d hst
                    split at hl
                    · rename_i gg ds' hls
                      cases hl
                      dsimp only at e1 e2
                      have hD5 : H5 D = some (.lst acc) := n5.h _ _ hD4
                      have b5 : B5 D = none := n5.no D b4 (by rw [hD4]; simp)
                      have ra5 := (ra.mono (LF.mono ((n3.b.trans n4.b).trans n5.b)))
                      have rv := rz5.stor hst
                      refine ⟨acc, hD5, ?_, B5, acc ++ [v], da ++ [d], fa && f, (gg, ds'), ff_upd ((f3.nx n4).nx n5) b5 hFD, same_updD (((e0.trans n3.h).trans n4.h).trans n5.h) h0D, ?_, b5, upd_same, (ra5.mono LF.and1).append (.cons (rv.mono LF.and2) .nil), hls, by rw [e1, Bool.and_assoc], by rw [e2, List.append_assoc]; rfl⟩
                      · rw [ra.length, sizeLine_eq]
                        rw [e2, List.length_append, List.length_cons] at hz
                        omega
                      · have n5' := (n23.trans n4).trans n5
                        refine ⟨n5'.b, same_updD n5'.bh b5, fun a o z => ?_, n5'.no⟩
                        rw [upd_ne (fun y => by subst y; rw [hD] at z; cases z)]
                        exact n5'.h a o z
                    · cases hl
                  · cases hl
      exact hgs goal
  · have ei : i = its.length := by omega
    subst ei
    rw [List.drop_length] at hl
    cases hl
    refine .inl ⟨I1.stop _ B2 H2 n2.b eB2 (Nat.le_refl _), ?_⟩
    rw [Bool.and_true] at e1
    rw [List.append_nil] at e2
    subst e1; subst e2
    refine q (.ref D) B2 H2 (fun a => if a = D then some (.lst acc) else none) n2 ⟨fun a o z => ?_, fun a z => ?_⟩ ⟨D, acc, rfl, if_pos rfl, ra⟩
    · split at z
      · rename_i y; subst y; cases z; exact hacc
      · cases z
    · split at z
      · rename_i y; subst y; exact ⟨hD, b2⟩
      · exact absurd rfl z
theorem wipe_idem : ∀ (own : List Nat) (σ : L2.St), L2.wipe (L2.wipe σ own) own = L2.wipe σ own := by
  intro own σ
  apply List.ext_getElem?
  intro j
  by_cases hj : j ∈ own
  · have key : ∀ (vs : List Nat) (τ : L2.St), j ∈ vs → (L2.wipe τ vs)[j]? = if j < τ.length then some none else none := by
      intro vs
      induction vs with
      | nil => intro τ h; cases h
      | cons i r ih =>
        intro τ h
        show ((L2.wipe τ r).set i none)[j]? = _
        by_cases hij : i = j
        · subst hij
          by_cases hl : i < τ.length
          · rw [List.getElem?_set_self (by rw [L2.wipe_length]; exact hl), if_pos hl]
          · rw [List.getElem?_eq_none (by rw [List.length_set, L2.wipe_length]; omega), if_neg hl]
        · rw [List.getElem?_set_ne hij]
          exact ih τ (by rcases List.mem_cons.mp h with e | e; exact absurd e.symm hij; exact e)
    rw [key own _ hj, key own _ hj, L2.wipe_length]
  · rw [L2.wipe_out hj]
theorem wipe_set {i : Nat} {own : List Nat} (hi : i ∈ own) (σ : L2.St) (o : Option V) : L2.wipe (σ.set i o) own = L2.wipe σ own := by
  apply List.ext_getElem?
  intro j
  by_cases hj : j ∈ own
  · have key : ∀ (vs : List Nat) (τ : L2.St), j ∈ vs → (L2.wipe τ vs)[j]? = if j < τ.length then some none else none := by
      intro vs
      induction vs with
      | nil => intro τ h; cases h
      | cons i r ih =>
        intro τ h
        show ((L2.wipe τ r).set i none)[j]? = _
        by_cases hij : i = j
        · subst hij
          by_cases hl : i < τ.length
          · rw [List.getElem?_set_self (by rw [L2.wipe_length]; exact hl), if_pos hl]
          · rw [List.getElem?_eq_none (by rw [List.length_set, L2.wipe_length]; omega), if_neg hl]
        · rw [List.getElem?_set_ne hij]
          exact ih τ (by rcases List.mem_cons.mp h with e | e; exact absurd e.symm hij; exact e)
    rw [key own _ hj, key own _ hj, List.length_set]
  · rw [L2.wipe_out hj, L2.wipe_out hj, List.getElem?_set_ne (fun e : i = j => hj (by rw [← e]; exact hi))]
/-- a target that stores names of the block alone -/
def Keeps (own : List Nat) (g : TG) : Prop := ∀ {v : V} {σ : L2.St} {H : Hp} {R : L2.St → Hp → Prop}, g v σ H R → g v σ H fun σ' H' => L2.wipe σ' own = L2.wipe σ own ∧ R σ' H'
theorem keeps_name {own : List Nat} {i : Nat} (hi : i ∈ own) : Keeps own (gName i) := fun {v σ H R} h => ⟨wipe_set hi σ _, h⟩
section
variable {elt tg iter : Expr} {ifs : List Expr} {scope : Scope} {own : List (Str × Nat)} {pos : Pos} {g : IF} {t : GF} {bt : BF} {ef : EF} {gt : TG}
theorem eLc_ok {wi : TI} (hw : wi = tI X.K X.mg H0 W g) (hgt : ∀ v σ H Q, tG X.K H0 t v σ H Q → gt v σ H Q) (hk : Keeps (own.map (·.2)) gt) {Q : VK} (E : ER X.K H0 B H σ ρ) (q : OK X.K X.mg H0 W B H σ (eLc g (own.map (·.2)) t bt ef ρ) Q) :
    tLc wi gt (tT X.K X.mg H0 W0 bt) (tZ X.K X.mg H0 W0 ef) (own.map (·.2)) σ H Q := by
  subst hw
  refine ⟨B, ρ, E, ?_⟩
  unfold eLc at q
  cases r : g ρ with
  | none => rw [r] at q; exact (okNone q).elim
  | some o =>
    rw [r] at q
    cases o with
    | ex m =>
      rcases q with ⟨s, h1, h2⟩ | ⟨m', h1, h2⟩
      · cases h1
      · cases h1; exact .inr ⟨m, rfl, h2⟩
    | ok its =>
      refine .inl ⟨its, rfl, fun J B1 H1 n1 I1 => ?_⟩
      dsimp only at q
      split at q
      · rename_i fr ds hl
        split at q
        · rename_i hz
          rcases q with ⟨s, h1, h2⟩ | ⟨m', h1, h2⟩
          · cases h1
            refine lc_ok (mg := X.mg) (W' := W) (E.nx n1) I1 hgt (fun _ _ _ z => z) (fun _ _ _ z => z) (fun {v H R} h => ?_) hl hz (h2.nx n1)
            have z := hk h
            rw [wipe_idem] at z
            exact z
          · cases h1
        · exact (okNone q).elim
      · exact (okNone q).elim
theorem pdLc (hc : X.calm = true) (hN : X.N.Nodup) (hi : PID X H0 W tg iter g) (ok : BlkOk X.N X.env.scope scope own) (hgt : ∀ v σ H Q, tG X.K H0 t v σ H Q → gt v σ H Q) (hk : Keeps (own.map (·.2)) gt)
    (hg : ∀ (s : Shared) (H : Hp) (C : Addr) (cl : List (Str × Addr)) (fp : List Addr), PG (X.blk s H scope (compEnvC scope cl C X.env) fp) tg gt) (ht : ∀ (s : Shared) (H : Hp) (C : Addr) (cl : List (Str × Addr)) (fp : List Addr), PBs (X.blk s H scope (compEnvC scope cl C X.env) fp) H0 W0 ifs bt)
    (he : ∀ (s : Shared) (H : Hp) (C : Addr) (cl : List (Str × Addr)) (fp : List Addr), PD (X.blk s H scope (compEnvC scope cl C X.env) fp) H0 W0 elt ef) (hs : ∀ x, foldedSetIterable iter X.env x = pure x := by intro _; rfl) :
    PD X H0 W (.ListComp elt [⟨tg, iter, ifs, 0⟩] scope pos) (eLc g (own.map (·.2)) t bt ef) :=
  ⟨peWeak (pe_lc hc hN hi.pi ok hg (fun s H C cl fp => (ht s H C cl fp).pts) (fun s H C cl fp => (he s H C cl fp).z) hs) fun σ H Q ⟨B, ρ, E, q⟩ => eLc_ok rfl hgt hk E q⟩
theorem psdSetZLc {i : Nat} {y : Str} {py spos : Pos} (hc : X.calm = true) (hN : X.N.Nodup) (hy : X.N[i]? = some y) (hyl : X.env.scope.names.lookup y = some .local) (hsw : swapsWith (.ListComp elt [⟨tg, iter, ifs, 0⟩] scope pos) (some (.Name y py)) spos.line X.env = pure true)
    (hi : PID X H0 W tg iter g) (ok : BlkOk X.N X.env.scope scope own) (hgt : ∀ v σ H Q, tG X.K H0 t v σ H Q → gt v σ H Q) (hk : Keeps (own.map (·.2)) gt)
    (hg : ∀ (s : Shared) (H : Hp) (C : Addr) (cl : List (Str × Addr)) (fp : List Addr), PG (X.blk s H scope (compEnvC scope cl C X.env) fp) tg gt) (ht : ∀ (s : Shared) (H : Hp) (C : Addr) (cl : List (Str × Addr)) (fp : List Addr), PBs (X.blk s H scope (compEnvC scope cl C X.env) fp) H0 W0 ifs bt)
    (he : ∀ (s : Shared) (H : Hp) (C : Addr) (cl : List (Str × Addr)) (fp : List Addr), PD (X.blk s H scope (compEnvC scope cl C X.env) fp) H0 W0 elt ef) (hs : ∀ x, foldedSetIterable iter X.env x = pure x := by intro _; rfl) :
    PSD X H0 W (.Assign [.Name y py] (.ListComp elt [⟨tg, iter, ifs, 0⟩] scope pos) spos) (sSetZ i (eLc g (own.map (·.2)) t bt ef)) :=
  ⟨psWeak (ps_setLc hc hN hy hyl hsw hi.pi ok hg (fun s H C cl fp => (ht s H C cl fp).pts) (fun s H C cl fp => (he s H C cl fp).z) hs) fun D σ H ⟨B, ρ, o, E, h, ho⟩ => eLc_ok rfl hgt hk E (by
    have z := bSz_ok (R := fun v H' => gName i v σ H' D.nx) E h ho fun s v B' H' n r q ho' => by
      split at q
      · rename_i hs; cases q
        exact ho' _ B' H' (E.set n TF.emp r.rr hs) (Same.refl _)
      · cases q
    rcases z with ⟨s, h1, h2⟩ | ⟨m, h1, h2⟩
    · exact .inl ⟨s, h1, h2.toQ E.e0 E.eB⟩
    · exact .inr ⟨m, h1, h2⟩)⟩
/-- a name as the block's target -/
theorem tg_name {i : Nat} : ∀ v σ H Q, tG X.K H0 (gN i) v σ H Q → gName i v σ H Q := fun v σ H Q ⟨B, ρ, s, ρ', E, r, h, q⟩ => by
  unfold gN at h
  split at h
  · rename_i hs; cases h
    exact q _ (E.set E.nx0 TF.emp r.rr hs)
  · cases h
end
end
section
variable {X : Cx} {H0 : En} {W : WX} {e a b c : Expr} {es : List Expr} {f g : EF} {pos apos cpos : Pos} {K : PySem.W.Frag} {B H B' H' : Hp} {σ : L2.St} {mg : Str → Option Value} {ρ : Ev}
/-- slot i's own list is written -/
theorem ER.wr {i : Nat} {p : Addr} {fr fr' : Bool} {ds ds' : List PyData} {vs' : List V} (E : ER K H0 B H σ ρ) (hi : ρ[i]? = some (.own fr ds)) (hp : σ[i]? = some (some (.ref p))) (r' : RepAll (LF K H0 B fr') vs' ds') :
    ER K H0 B (upd H p (.lst vs')) σ (ρ.set i (.own fr' ds')) := by
  obtain ⟨F, f1, f2, f3, f4⟩ := E.ex
  obtain ⟨p', vs, e1, e2, r1⟩ := f4 i _ hi
  have epp : p' = p := by rw [hp] at e1; cases e1; rfl
  subst epp
  have hF : F i p' ≠ none := by rw [e2]; simp
  obtain ⟨g1, g2⟩ := f2 i p' hF
  refine ⟨same_updD E.e0 g2, E.b0, E.n0, same_updD E.eB g1, by rw [List.length_set]; exact E.len, fun j => if j = i then upd (F i) p' (.lst vs') else F j, ⟨fun j => ?_, fun j a h => ?_, fun j k a hjk h => ?_, fun j u hu => ?_⟩⟩
  · dsimp only
    split
    · intro a o q
      by_cases ha : a = p'
      · subst ha; rw [upd_same] at q ⊢; exact q
      · rw [upd_ne ha] at q ⊢; exact f1 i a o q
    · rename_i hj
      exact same_updD (f1 j) (f3 i j p' (Ne.symm hj) hF)
  · dsimp only at h
    split at h
    · by_cases ha : a = p'
      · subst ha; exact ⟨g1, g2⟩
      · rw [upd_ne ha] at h; exact f2 i a h
    · exact f2 j a h
  · dsimp only at h ⊢
    split at h
    · rename_i hji
      rw [if_neg (by omega)]
      by_cases ha : a = p'
      · subst ha; exact f3 i k a (by omega) hF
      · rw [upd_ne ha] at h; exact f3 i k a (by omega) h
    · split
      · rename_i hji hki
        have ha : a ≠ p' := fun z => by subst z; exact h (f3 i j a (Ne.symm hji) hF)
        rw [upd_ne ha]
        exact f3 j i a hji h
      · exact f3 j k a hjk h
  · dsimp only
    by_cases hj : j = i
    · subst hj
      have hl : j < ρ.length := by have := (List.getElem?_eq_some_iff.mp hu).1; rwa [List.length_set] at this
      rw [List.getElem?_set_self hl] at hu
      have hu' := Option.some.inj hu
      subst hu'
      rw [if_pos rfl]
      exact ⟨p', vs', hp, upd_same, r'⟩
    · rw [List.getElem?_set_ne (Ne.symm hj)] at hu
      rw [if_neg hj]
      exact f4 j u hu
/-- x.append(e) -/
def sApp (i : Nat) (f : EF) : SF := fun ρ => match ρ[i]? with
  | some (.own fr ds) => bSz (f ρ) ρ fun s => match stor s with
    | some (f', d) => if ds.length < 16777216 then some (.nx (ρ.set i (.own (fr && f') (ds ++ [d])))) else none
    | none => none
  | _ => none
theorem psdApp {i : Nat} {o : Expr} (ho : PE X o (tVar i)) (he : PD X H0 W e f) (hbase : attributeBase o "append" X.env (eval o X.env) = eval o X.env := by rfl)
    (hfew : ((backTo cpos (starEach (e :: []) X.env)).all (fun x => !x.1) && (backToKw cpos (keywordEach [] X.env)).all (fun x => x.1.isSome) && decide ((e :: []).length + ([] : List Keyword).length + (if ([] : List Keyword).isEmpty then 0 else 1) < 30)) = true := by rfl)
    (hline : (apos.endLine == cpos.line) = true := by rfl) (hs : starEach (e :: []) X.env = (false, eval e X.env) :: starEach [] X.env := by rfl) (hplain : (backTo cpos (starEach [] X.env)).any (·.1) = false := by rfl)
    (hsw : swapsWith (.Call (.Attribute o "append" apos) [e] [] cpos) none pos.line X.env = pure false := by rfl) : PSD X H0 W (.Expr (.Call (.Attribute o "append" apos) [e] [] cpos) pos) (sApp i f) := ⟨psWeak (ps_expr (pe_bm PySem.F.plainAttrs_list PySem.F.slot_list_append PySem.F.type_list_append mt_append ho (pa_cons he.z pa_nil hs) hbase hfew hline hs hplain) hsw) fun D σ H ⟨B, ρ, o, E, h, ho⟩ => by
  unfold sApp at h
  split at h
  · rename_i fr ds hi
    obtain ⟨F, f1, f2, f3, f4⟩ := E.ex
    obtain ⟨p, vs, e1, e2, r1⟩ := f4 i _ hi
    have hH : H p = some (.lst vs) := f1 i _ _ e2
    refine ⟨.ref p, e1, .inl ⟨rfl, vs, SqL.of hH⟩, B, ρ, E, bSz_ok E h ho fun s v B' H' n r q ho' => ?_⟩
    split at q
    · rename_i f' d hst
      split at q
      · rename_i hz
        cases q
        have r' := r1.mono (LF.mono n.b)
        refine ⟨p, vs, v, rfl, rfl, n.h _ _ hH, by rw [r1.length, sizeLine_eq]; exact hz, ?_⟩
        exact ho' σ B' _ ((E.nx n).wr hi e1 ((r'.mono LF.and1).append (.cons ((r.stor hst).mono LF.and2) .nil))) (Same.refl _)
      · cases q
    · cases q
  · cases h⟩
/-- x[j] = e -/
def sPut (i : Nat) (fi f : EF) : SF := fun ρ => match ρ[i]? with
  | some (.own fr ds) => bSz (f ρ) ρ fun s => bSz (fi ρ) ρ fun z => match stor s with
    | some (f', d) => match dat z with
      | some (.int k) => match ixN ds.length k with
        | some j => some (.nx (ρ.set i (.own (fr && f') (ds.set j d))))
        | none => none
      | _ => none
    | none => none
  | _ => none
/-- a slot's own list is frozen -/
def gFrz (i : Nat) (ρ : Ev) : Option Ev := match ρ[i]? with
  | some s => some (ρ.set i (frz s))
  | none => none
theorem frz_ok {i : Nat} {ρ' : Ev} (E : ER K H0 B H σ ρ) (h : gFrz i ρ = some ρ') : ∃ B', ER K H0 B' H σ ρ' ∧ Same B B' := by
  unfold gFrz at h
  split at h
  · rename_i s hs
    cases h
    obtain ⟨F, f1, f2, f3, f4⟩ := E.ex
    have hi : i < ρ.length := (List.getElem?_eq_some_iff.mp hs).1
    have sr := f4 i s hs
    have g : ∀ a o, F i a = some o → B a = none ∧ H0.H a = none := fun a o q => f2 i a (by rw [q]; simp)
    have sB : Same B (un B (F i)) := fun a o q => by unfold un; rw [q]
    have sF : Same (F i) (un B (F i)) := fun a o q => by unfold un; rw [(g a o q).1]; exact q
    refine ⟨un B (F i), ⟨E.e0, E.b0.trans sB, fun a h1 h2 => ?_, fun a o q => ?_, by rw [List.length_set]; exact E.len, fun j => if j = i then emp else F j, ⟨fun j => ?_, fun j a h => ?_, fun j k a hjk h => ?_, fun j u hu => ?_⟩⟩, sB⟩
    · unfold un
      rw [E.n0 a h1 h2]
      cases z : F i a with
      | none => rfl
      | some o => exact absurd (g a o z).2 h1
    · unfold un at q
      cases z : B a with
      | some u => rw [z] at q; cases q; exact E.eB _ _ z
      | none => rw [z] at q; exact f1 i _ _ q
    · dsimp only
      split
      · exact fun _ _ z => nomatch z
      · exact f1 j
    · dsimp only at h
      split at h
      · exact absurd rfl h
      · rename_i hji
        refine ⟨?_, (f2 j a h).2⟩
        unfold un
        rw [(f2 j a h).1]
        exact f3 j i a hji h
    · dsimp only at h ⊢
      split at h
      · exact absurd rfl h
      · split
        · rfl
        · exact f3 j k a hjk h
    · dsimp only
      by_cases hj : j = i
      · subst hj
        rw [List.getElem?_set_self hi] at hu
        have hu' := Option.some.inj hu
        subst hu'
        cases s with
        | und => trivial
        | val fr d => obtain ⟨v, e1, e2⟩ := sr; exact ⟨v, e1, e2.mono (LF.mono sB)⟩
        | own fr ds =>
          obtain ⟨p, vs, e1, e2, r1⟩ := sr
          refine ⟨_, e1, .lst ?_ (r1.mono (LF.mono sB))⟩
          cases fr with
          | true => exact nw_of (g p _ e2).2 (sF _ _ e2)
          | false => exact SqL.of (sF _ _ e2)
        | full d =>
          obtain ⟨v, e1, r1⟩ := sr
          exact ⟨v, e1, Rep.mono (fun a o q => nw_of (g a o q).2 (sF a o q)) r1⟩
        | bor _ _ => exact sr.elim
        | brf _ => exact sr.elim
        | exn _ => exact sr
        | cel k => trivial
      · rw [List.getElem?_set_ne (Ne.symm hj)] at hu
        rw [if_neg hj]
        exact (f4 j u hu).mono sB
  · cases h
end
end PL
namespace PL
open PySem PySem.Spec PyProof.Rows L2
section
variable {P : Program} {w : World} {K : PySem.W.Frag} {mg mb : Str → Option Value} {k : Nat} {fa a : Addr} {fd : FuncData} {x : Str} {sp : Sp} {s₁ : Shared} {vs : List Value} {ns : List Int}
/-- the abstract heap that tracks the script at most -/
structure Scr (K : PySem.W.Frag) (a : Addr) (ns : List Int) (h : Heap) (H : Hp) : Prop where
  only : Only H
  sq : SqL K H a (ns.map V.int)
  at' : ∀ b, H b ≠ none → b = a
  nk : H a ≠ none → K.lookup a = none
theorem lawRun (KX : K.In s₁.heap) (hns : s₁.heap.Ns mainGlobals mg) (hb : s₁.heap.Ns builtinsNs mb) (hbb : ∀ x : Str, x ≠ "__name__" → mb x = bootBuiltins x) (hlim : s₁.heap.NoLimit) (hg : s₁.gens = #[])
    (ha : s₁.heap.get? a = some { cls := .type "list", data := .seq vs.toArray }) (hr : Room k callerA) (F : ∀ base : Heap, K.In base → base.Ns mainGlobals mg → FG P w K mg base k fa fd [x] sp) (hbind : ∀ (s : Shared) (u : Value), BindsTo s fd ⟨[u], []⟩ [(x, u)])
    {H : Hp} (S : Scr K a ns s₁.heap H) (hok : HOk P w H s₁.heap) (hsp : sp [.ref a] H (fun v _ => v = .bl true) fun _ _ _ => False) :
    codeAny (model P w) callerA (.call (.ref fa) ⟨[.ref a], []⟩) (fun r s' => r = .ok (.ret (.bool true)) ∧ OldK s₁.heap s'.heap ∧ s'.os = s₁.os ∧ AllBare s'.gens) s₁ := by
  have free : ∀ {b : Addr} {o : Obj}, s₁.heap.get? b = some o → (∀ v n, o.data = .seq v n → b ≠ a) → H b = none := by
    intro b o e d
    cases q : H b with
    | none => rfl
    | some u =>
      have eb := S.at' b (by rw [q]; simp)
      subst eb
      have ee := ha.symm.trans e
      cases ee
      exact absurd rfl (d _ _ rfl)
  have toB : ∀ {b : Addr} {o : Obj}, s₁.heap.get? b = some o → H b = none → (hidT s₁.heap H).get? b = some o := hidT_get
  have nsT : ∀ {b : Addr} {m : Str → Option Value}, s₁.heap.Ns b m → (hidT s₁.heap H).Ns b m := by
    intro b m ⟨o, es, ep, e, d, r⟩
    exact ⟨o, es, ep, toB e (free e (fun v n z => by rw [d] at z; cases z)), d, r⟩
  have KB : K.In (hidT s₁.heap H) := by
    intro b o e
    refine toB (KX b o e) ?_
    cases q : H b with
    | none => rfl
    | some u =>
      have eb := S.at' b (by rw [q]; simp)
      subst eb
      rw [S.nk (by rw [q]; simp)] at e
      cases e
  obtain ⟨mc, l1, l2⟩ := hlim
  have M : Mod K mg (hidT s₁.heap H) := ⟨KB, nsT hns, ⟨mb, nsT hb, hbb⟩, ⟨mc, nsT l1, l2⟩⟩
  have none_in : ∀ b : Addr, b ∉ ([] : List Addr) := fun b z => by simp at z
  have e0 : Env0 P w K mg (hidT s₁.heap H) callerA [] s₁ H := ⟨rfl, M, fun b o e => of_hidT e, Nat.le_of_eq (hidT_size _ _), trivial, fun b hb => absurd hb (none_in b), hok, .of_eq hg⟩
  have run := (F _ KB (nsT hns)).go callerA [] s₁ H ⟨[.ref a], []⟩ [.ref a] [.ref a] _ _ hr rfl e0 (hbind s₁ (.ref a)) (.cons rfl .nil) hsp
  refine codeAny_mono run fun r s' hq => ?_
  match r, hq with
  | .ok .next, hq => exact hq.elim
  | .ok .brk, hq => exact hq.elim
  | .ok .cont, hq => exact hq.elim
  | .error e, ⟨_, _, _, _, _, _, _, _, _, _, _, _, z⟩ => exact z.elim
  | .ok (.ret u), ⟨v, H', os, bare, u1, hok', rv, q⟩ =>
    have qv : v = .bl true := q
    subst qv
    cases (show u = Value.bool true from rv)
    refine ⟨rfl, OldK.of_keep fun b o e => ?_, os, bare⟩
    rcases S.only b with z | ⟨ob, xs, z⟩
    · exact u1.keep b o e z (none_in b) (none_in b)
    · have k1 : s₁.heap.get? b = some ob := (hok b _ z).1
      have k2 : s'.heap.get? b = some ob := (hok' b _ (u1.frzs b ob _ z)).1
      rw [k2, ← k1, e]
theorem scr_ex (KX : K.In s₁.heap) (ha : s₁.heap.get? a = some { cls := .type "list", data := .seq vs.toArray }) (hi : IntsAre vs ns) (hl : ns.length ≤ sizeLine) : ∃ H : Hp, Scr K a ns s₁.heap H ∧ HOk P w H s₁.heap := by
  have rv := vals_ints hi
  have lv := hi.length
  by_cases hk : K.lookup a = none
  · refine ⟨fun b => if b = a then some (.frz { cls := .type "list", data := .seq vs.toArray } (.lst (ns.map V.int))) else none, ⟨fun b => ?_, .inl (.inr ⟨{ cls := .type "list", data := .seq vs.toArray }, if_pos rfl⟩), fun b z => ?_, fun _ => hk⟩, fun b u z => ?_⟩
    · by_cases e : b = a
      · right; exact ⟨_, _, if_pos e⟩
      · left; exact if_neg e
    · by_cases e : b = a
      · exact e
      · exact absurd (if_neg e) z
    · dsimp only at z
      by_cases e : b = a
      · rw [if_pos e] at z
        cases z
        rw [e]
        exact ⟨ha, by rw [List.length_map]; exact hl, vs, _, rv, ha⟩
      · rw [if_neg e] at z; cases z
  · obtain ⟨o, ho⟩ : ∃ o, K.lookup a = some o := by
      cases q : K.lookup a with
      | none => exact absurd q hk
      | some o => exact ⟨o, rfl⟩
    have e := (KX a o ho).symm.trans ha
    cases e
    refine ⟨fun _ => none, ⟨fun b => .inl rfl, .inr ⟨_, vs.toArray, _, ho, rfl, rfl, rfl, by rw [List.size_toArray, lv]; exact hl, by simpa using rv⟩, fun b z => absurd rfl z, fun z => absurd rfl z⟩, fun b u z => nomatch z⟩
end
/-- the goal that k_head leaves: from the law's function on data -/
theorem walkG {l : PySem.W.OpenLaw} {k : Nat} {q : Program} {loose : List Str} {XP : (Str → Option Value) → Heap → Prop} {YP : World → Heap → Prop} {d : DefRec} {K : Params → PySem.W.Frag} {x : Str} {LF : FN}
    (hn : l.most = some 63) (hdf : d.params.defaults = []) (hr : Room k callerA) (hY : ∀ (w : World) (h : Heap), YP w h → (K w.params).In h)
    (F : ∀ (w : World) (mg : Str → Option Value) (fa : Addr) (h : Heap), (K w.params).In h → h.Ns mainGlobals mg → mg d.name = some (.ref fa) →
      ∃ fd : FuncData, (∀ (s : Shared) (u : Value), BindsTo s fd ⟨[u], []⟩ [(x, u)]) ∧ ∀ base : Heap, (K w.params).In base → base.Ns mainGlobals mg → FG l.prog w (K w.params) mg base k fa fd [x] (spD (K w.params) mg 1 LF))
    (hL : ∀ ns : List Int, ns.length ≤ 63 → LF [.list (ns.map .int)] = some (.ret true (.bool true))) :
    PySem.W.WalkO q loose XP YP l.row.toRowW d [] (fun f vs => PySem.call f vs) := by
  refine Att.attach_call hn hdf fun w s₀ s₁ mg mb fa o pm cd doc a vs ns G Y ho hd hcd hmg hobj hints hlen hg => ?_
  have KX := hY w _ Y
  obtain ⟨fd, hb, hF⟩ := F w mg fa _ KX G.T.g hmg
  obtain ⟨H, S, hok⟩ := scr_ex (P := l.prog) (w := w) KX hobj hints (Nat.le_trans hlen (by rw [sizeLine_eq]; decide))
  refine lawRun KX G.T.g G.T.b G.T.builtins G.T.nolimit hg hobj hr hF hb S hok ⟨rfl, H, [.list (ns.map .int)], _, Same.refl _, .cons (.lst S.sq (RepAll.ints _ ns)) .nil, hL ns hlen, fun v H' N s1 s2 s3 r => ?_⟩
  exact r.blV
end PL
namespace PL
open PySem PySem.Spec PyProof.Rows L2
section
variable {X : Cx} {H0 : En} {W : WX} {e a b c : Expr} {es : List Expr} {f g k : EF} {fs : List EF} {pos p p2 : Pos} {K : PySem.W.Frag} {B H B' H' : Hp} {σ : L2.St} {mg : Str → Option Value} {x : Str}
def IsaR (X : Cx) (T : String) (g : PyData → Bool) : Prop := ∀ (s : Shared) (v : Value) (d : PyData) (as : List Addr) (Q : Value → Shared → Prop), Reads s.heap v d as → (∀ tk, s.toks ≤ tk → Q (.bool (g d)) { s with toks := tk }) → wpAny (model X.prog X.w) X.A (call (.builtin "isinstance") [v, .type T]) Q X.xe s
theorem isaList : IsaR X "list" PyData.isList := fun _ _ _ _ _ r h => PySem.W.isinstance_list_data r h
theorem isaTuple : IsaR X "tuple" PyData.isTuple := fun _ _ _ _ _ r h => PySem.W.isinstance_tuple_data r h
theorem isaBool : IsaR X "bool" PyData.isBool := fun _ _ _ _ _ r h => PySem.W.isinstance_bool_data r h
def rIsa (K : PySem.W.Frag) (T : String) (g : PyData → Bool) : List V → Hp → VK → Prop := fun vs H Q => ∃ x d, vs = [x, .ty T] ∧ Rep (LH K H) x d ∧ Q (.bl (g d)) H
theorem crIsa {T : String} {g : PyData → Bool} (h : IsaR X T g) : CallR X (.builtin "isinstance") (rIsa X.K T g) := by
  intro pins s σ H xs us Q I r ⟨x, d, e1, h1, q⟩
  subst e1
  cases r with
  | cons r1 r =>
    cases r with
    | cons r2 r =>
      cases r
      cases (show _ = Value.type T from r2)
      obtain ⟨as, rd⟩ := h1.reads I r1
      exact h s _ d as _ rd fun tk _ => ⟨.bl (g d), H, I.kept (t' := tk) (fun _ _ e => e), rfl, q⟩
def eIsa (g : PyData → Bool) (f : EF) : EF := fun ρ => PL.bz (f ρ) fun x => match dat x with
  | some d => some (.ok (.val true (.bool (g d))))
  | none => none
theorem pdIsa {T : String} {G : PyData → Bool} (hr : IsaR X T G) (he : PD X H0 W e f) (hm : X.mg "isinstance" = none) (hm2 : X.mg x = none) (hv2 : bootBuiltins x = some (.type T)) (hg : Gl X "isinstance" := by rfl) (hg2 : Gl X x := by rfl) (hn : x ≠ "__name__" := by decide) (hd : (x == ("__debug__" : Str)) = false := by decide)
    (hs : starEach [e, .Name x p2] X.env = (false, eval e X.env) :: starEach [.Name x p2] X.env := by rfl) (hs2 : starEach [.Name x p2] X.env = [(false, eval (.Name x p2) X.env)] := by rfl) : PD X H0 W (.Call (.Name "isinstance" p) [e, .Name x p2] [] pos) (eIsa G f) :=
  ⟨peWeak (pe_callB (crIsa hr) hg hm rfl (pa_cons he.z (pa_cons (pe_bltn (v := .ty T) hg2 hm2 hv2 rfl hn hd) pa_nil (by rw [hs2]; rfl)) hs) (he := hs) (hpl := by rw [hs2]; rfl)) fun σ H Q ⟨B, ρ, E, q⟩ => ⟨B, ρ, E, OK.bz q fun x v B1 H1 n1 r1 q1 => by
    split at q1
    · rename_i d hd
      refine ⟨v, d, rfl, r1.data n1.bh hd, ?_⟩
      rcases q1 with ⟨s, h1, h2⟩ | ⟨m, h1, h2⟩
      · cases h1; exact h2.bl n1.bh
      · cases h1
    · exact (okNone q1).elim⟩⟩
def blsD : List PyData → Option (List Bool)
  | [] => some []
  | .bool i :: ds => (blsD ds).map (i :: ·)
  | _ :: _ => none
theorem blsD_map : ∀ ns : List Bool, blsD (ns.map .bool) = some ns
  | [] => rfl
  | n :: ns => by show (blsD (ns.map .bool)).map _ = _; rw [blsD_map ns]; rfl
def gAny (d : PyData) : Option PyData := match d with | .list ds => (blsD ds).map fun ns => .bool (ns.any id) | _ => none
def gAll (d : PyData) : Option PyData := match d with | .list ds => (blsD ds).map fun ns => .bool (ns.all id) | _ => none
/-- two ints in, an int out -/
def rI2 (h : Int → Int → Int) : List V → Hp → VK → Prop := fun xs H Q => ∃ i j, xs = [.int i, .int j] ∧ Q (.int (h i j)) H
def fI2 (h : Int → Int → Int) (ss : List Sl) : Option Sl := match ss with
  | [x, y] => match dat x with
    | some (.int i) => match dat y with
      | some (.int j) => some (.val true (.int (h i j)))
      | _ => none
    | _ => none
  | _ => none
theorem cbI2 (h : Int → Int → Int) : CB X H0 (rI2 h) (fI2 h) := by
  intro B H ss vs s Q e0 eB r hf hq
  unfold fI2 at hf
  split at hf
  · rename_i x y
    cases r with
    | cons r1 r =>
      cases r with
      | cons r2 r =>
        cases r
        split at hf
        · rename_i i hi
          split at hf
          · rename_i j hj
            cases hf
            exact ⟨i, j, by rw [(r1.data eB hi).intV, (r2.data eB hj).intV], hq.int eB⟩
          · cases hf
        · cases hf
  · cases hf
def iMin (i j : Int) : Int := if j < i then j else i
theorem crMin2 (hc : X.calm = true) : CallR X (.builtin "min") (rI2 iMin) := call_min2 hc
def rLs (K : PySem.W.Frag) : List V → Hp → VK → Prop := fun xs H Q => ∃ p ys, xs = [V.ref p] ∧ (SqL K H p ys ∨ SqT K H p ys) ∧ ∀ l, H l = none → Q (.ref l) (upd H l (.lst ys))
theorem crList : CallR X (.type "list") (rLs X.K) := call_list_of
def fLs (ss : List Sl) : Option Sl := match ss with
  | [x] => match lstD x with
    | some (fr, ds) => some (.own fr ds)
    | none => match tupD x with
      | some (fr, ds) => some (.own fr ds)
      | none => none
  | _ => none
theorem cbLs : CB X H0 (rLs X.K) fLs := by
  intro B H ss vs s Q e0 eB r hf hq
  unfold fLs at hf
  split at hf
  · rename_i x
    cases r with
    | cons r1 r =>
      cases r
      split at hf
      · rename_i fr ds hd
        cases hf
        obtain ⟨p, vs, rfl, s1, a1⟩ := r1.lst eB hd
        exact ⟨p, vs, rfl, .inl s1, fun l hl => hq.new eB a1 hl⟩
      · split at hf
        · rename_i fr ds hd
          cases hf
          obtain ⟨p, vs, rfl, s1, a1⟩ := r1.tup eB hd
          exact ⟨p, vs, rfl, .inr s1, fun l hl => hq.new eB a1 hl⟩
        · cases hf
  · cases hf
def fTl (ss : List Sl) : Option Sl := match ss with
  | [x] => match lstD x with
    | some (fr, ds) => some (.val fr (.tuple ds))
    | none => match x with
      | .val fr (.tuple ds) => some (.val fr (.tuple ds))
      | _ => none
  | _ => none
def allAlike (ds : List PyData) : Bool := ds.all fun d => ds.all fun e => PySem.W.alike d e
def isT : PyData → Bool
  | .tuple (_ :: _) => true
  | _ => false
def isO : PyData → Bool
  | .none => false
  | .tuple _ => false
  | _ => true
def gSorted (ds : List PyData) : Option (List PyData) :=
  if allAlike ds = true ∧ (ds.all isT = true ∨ ds.all isO = true) ∧ ds.length ≤ 16777216 ∧ ds.all (fun d => decide (d.depth ≤ 50)) = true then some (ds.mergeSort (PySem.W.dataLe false id)) else none
theorem RepAll.zip {L : Addr → HO → Prop} : ∀ {vs : List V} {ds : List PyData}, RepAll L vs ds → (∀ z ∈ vs.zip ds, Rep L z.1 z.2) ∧ (vs.zip ds).map (·.2) = ds
  | _, _, .nil => ⟨by simp, rfl⟩
  | _, _, .cons r rs => by
    obtain ⟨h1, h2⟩ := RepAll.zip rs
    refine ⟨fun z hz => ?_, ?_⟩
    · rw [List.zip_cons_cons] at hz
      rcases List.mem_cons.mp hz with e | e
      · subst e; exact r
      · exact h1 z e
    · rw [List.zip_cons_cons, List.map_cons, h2]
def fSorted (ss : List Sl) : Option Sl := match ss with
  | [x] => match lstD x with
    | some (fr, ds) => (gSorted ds).map fun ds' => .own fr ds'
    | none => none
  | _ => none
end
end PL
namespace PL
open PySem PySem.Spec PyProof.Rows L2
structure Has (P : Program) (w : World) (K : PySem.W.Frag) (mg : Str → Option Value) (base : Heap) (k : Nat) (x : Str) (ps : List Str) (F : FN) : Prop where
  ex : ∃ f fd, FG P w K mg base k f fd ps (spD K mg ps.length F) ∧ mg x = some (.ref f) ∧ PySem.W.keepIn K (.ref f) = true ∧ Binds K fd ps []
section
variable {X : Cx} {H0 : En} {W : WX} {e a b c : Expr} {es : List Expr} {f g : EF} {fs : List EF} {pos p : Pos} {j k n : Nat} {x : Str} {ps : List Str} {F : FN} {st : Stmt} {qual : Str} {fa : Addr} {fd : FuncData} {P : Program} {w : World} {K : PySem.W.Frag} {mg : Str → Option Value} {base : Heap}
theorem Has.mk' (Fn : Fun K x qual st fa fd) (hm : mg x = some (.ref fa)) (hb : Binds K fd ps []) (h : FG P w K mg base k fa fd ps (spD K mg ps.length F)) : Has P w K mg base k x ps F := ⟨fa, fd, h, hm, Fn.kp, hb⟩
theorem pdCallH (h : Has X.prog X.w X.K X.mg X.base j x ps F) (hr : Room k X.A) (hgd : X.A.guards = some []) (tk : Takes X W) (ha : PDs X H0 W (e :: es) fs) (hj : j ≤ k := by decide) (hn : fs.length = ps.length := by rfl) (hg : Gl X x := by rfl)
    (hdb : (x == ("__debug__" : Str)) = false := by decide) (he : starEach (e :: es) X.env = (false, eval e X.env) :: starEach es X.env := by rfl) (hpl : (backTo pos (starEach es X.env)).any (·.1) = false := by rfl) :
    PD X H0 W (.Call (.Name x p) (e :: es) [] pos) (eCall F fs) := by
  obtain ⟨f, fd, h1, h2, h3, h4⟩ := h.ex
  exact pdCall h1 (hr.mono hj) hgd h2 h3 h4 tk ha hn hg hdb he hpl
theorem takes0 : Takes X W0 := fun _ _ ⟨_, _, _, _, _, _, _, _, _, _, _, _, _, _, _, _, w⟩ => w.elim
/-- a built-in of one datum -/
theorem pdB1 {id : String} {G : PyData → Option PyData} (hc : CallR X (.builtin id) (rD1 X.K G)) (hm : X.mg x = none) (hv : bootBuiltins x = some (.builtin id)) (ha : PD X H0 W e f) (hg : Gl X x := by rfl) (hn : x ≠ "__name__" := by decide) (hdb : (x == ("__debug__" : Str)) = false := by decide)
    (he : starEach [e] X.env = [(false, eval e X.env)] := by rfl) : PD X H0 W (.Call (.Name x p) [e] [] pos) (eCB (fD1 G) [f]) :=
  pdCB (pdsCons ha pdsNil (by rw [he]; rfl)) (cbD1 G) fun h => pe_callB hc hg hm hv h hn hdb (by rw [he]; rfl) (by rfl)
theorem pdB2 {id : String} {h : Int → Int → Int} (hc : CallR X (.builtin id) (rI2 h)) (hm : X.mg x = none) (hv : bootBuiltins x = some (.builtin id)) (ha : PD X H0 W a f) (hb : PD X H0 W b g) (hg : Gl X x := by rfl) (hn : x ≠ "__name__" := by decide) (hdb : (x == ("__debug__" : Str)) = false := by decide)
    (he : starEach [a, b] X.env = [(false, eval a X.env), (false, eval b X.env)] := by rfl) (he2 : starEach [b] X.env = [(false, eval b X.env)] := by rfl) : PD X H0 W (.Call (.Name x p) [a, b] [] pos) (eCB (fI2 h) [f, g]) :=
  pdCB (pdsCons ha (pdsCons hb pdsNil (by rw [he2]; rfl)) (by rw [he, he2])) (cbI2 h) fun h => pe_callB hc hg hm hv h hn hdb (by rw [he, he2]) (by rw [he2]; rfl)
theorem pdTy1 {T : String} {G : PyData → Option PyData} (hc : CallR X (.type T) (rD1 X.K G)) (hm : X.mg x = none) (hv : bootBuiltins x = some (.type T)) (ha : PD X H0 W e f) (hg : Gl X x := by rfl) (hn : x ≠ "__name__" := by decide) (hdb : (x == ("__debug__" : Str)) = false := by decide)
    (he : starEach [e] X.env = [(false, eval e X.env)] := by rfl) : PD X H0 W (.Call (.Name x p) [e] [] pos) (eCB (fD1 G) [f]) :=
  pdCB (pdsCons ha pdsNil (by rw [he]; rfl)) (cbD1 G) fun h => pe_callTy hc hg hm hv h hn hdb (by rw [he]; rfl) (by rfl)
theorem pdTyL {T : String} {r : List V → Hp → VK → Prop} {G : List Sl → Option Sl} (hc : CallR X (.type T) r) (hcb : CB X H0 r G) (hm : X.mg x = none) (hv : bootBuiltins x = some (.type T)) (ha : PD X H0 W e f) (hg : Gl X x := by rfl) (hn : x ≠ "__name__" := by decide) (hdb : (x == ("__debug__" : Str)) = false := by decide)
    (he : starEach [e] X.env = [(false, eval e X.env)] := by rfl) : PD X H0 W (.Call (.Name x p) [e] [] pos) (eCB G [f]) :=
  pdCB (pdsCons ha pdsNil (by rw [he]; rfl)) hcb fun h => pe_callTy hc hg hm hv h hn hdb (by rw [he]; rfl) (by rfl)
end
section
variable {X : Cx} {H0 : En} {W : WX} {K : PySem.W.Frag} {B H : Hp} {σ : L2.St} {ρ : Ev} {sts : List Stmt} {F : SF}
/-- an owned list becomes an own list of frozen items -/
def gOwn (i : Nat) (ρ : Ev) : Option Ev := match ρ[i]? with
  | some (.full (.list ds)) => some (ρ.set i (.own true ds))
  | some _ => some ρ
  | none => none
def gh (g : Ev → Option Ev) (F : SF) : SF := fun ρ => match g ρ with | some ρ' => F ρ' | none => none
theorem psdsFr {i : Nat} (h : PSDs X H0 W sts F) : PSDs X H0 W sts (gh (gFrz i) F) := psdsGhost (gFrz i) (fun B H σ ρ ρ' E q => frz_ok E q) h
end
end PL
namespace PL
open PySem PySem.Spec PyProof.Rows L2
section
variable {X : Cx} {H0 : En} {W : WX} {e a b c tg : Expr} {es : List Expr} {f g k : EF} {fs : List EF} {pos p : Pos} {K : PySem.W.Frag} {B H B' H' : Hp} {σ : L2.St} {mg : Str → Option Value} {ρ : Ev}
def rngC (lo c : Int) (n : Nat) : List Sl := (List.range n).map fun (i : Nat) => .val true (.int (lo + (i : Int) * c))
def rN (i j c : Int) : Nat := (Builtin.Range.rangeSize i j c).toNat
noncomputable def iR3 (fs : List EF) : IF := fun ρ => match evs fs ρ with
  | some (.ok ss) => match ss.map dat with
    | [some (.int i), some (.int j), some (.int c)] => if cd (c ≠ 0 ∧ c.natAbs < 1073741824 ∧ Builtin.Range.small i j c = true) = true then some (.ok (rngC i c (rN i j c))) else none
    | _ => none
  | some (.ex n) => some (.ex n)
  | none => none
def iM (mk : Sl → Option (List Sl)) (f : EF) : IF := fun ρ => match f ρ with
  | some (.ok s) => match mk (frz s) with
    | some its => some (.ok its)
    | none => none
  | some (.ex n) => some (.ex n)
  | none => none
def OKI (K : PySem.W.Frag) (mg : Str → Option Value) (H0 : En) (W : WX) (B H : Hp) (σ : L2.St) (o : Option Ri) (R : It → Hp → Prop) : Prop :=
  (∃ its, o = some (.ok its) ∧ ∀ J B' H', Nx B H B' H' → ItOk K H0 B' J its → R J H') ∨ ∃ n, o = some (.ex n) ∧ KX mg B H σ W n
theorem im_ok {mk : Sl → Option (List Sl)} {R : It → Hp → Prop} {Z : VK} (q : OKI K mg H0 W B H σ (iM mk f ρ) R)
    (c : ∀ s its v B' H', Nx B H B' H' → RZ K H0 B' H' v s → mk s = some its → (∀ J, ItOk K H0 B' J its → R J H') → Z v H') : OKZ K mg H0 W B H σ (f ρ) Z := by
  unfold iM at q
  cases r : f ρ with
  | none => rw [r] at q; rcases q with ⟨s, h1, h2⟩ | ⟨m, h1, h2⟩ <;> cases h1
  | some o =>
    rw [r] at q
    cases o with
    | ex n =>
      rcases q with ⟨s, h1, h2⟩ | ⟨m, h1, h2⟩
      · cases h1
      · cases h1; exact .inr ⟨n, rfl, h2⟩
    | ok s =>
      refine .inl ⟨s, rfl, fun v B1 H1 n1 r1 => ?_⟩
      dsimp only at q
      cases hz : mk (frz s) with
      | none => rw [hz] at q; rcases q with ⟨s, h1, h2⟩ | ⟨m, h1, h2⟩ <;> cases h1
      | some its =>
        rw [hz] at q
        rcases q with ⟨its', h1, h2⟩ | ⟨m, h1, h2⟩
        · cases h1
          exact c (frz s) its v B1 H1 n1 r1 hz fun J hJ => h2 J B1 H1 n1 hJ
        · cases h1
/-- enumerate -/
def enI (fr : Bool) : Nat → List PyData → List Sl
  | _, [] => []
  | k, d :: ds => .val fr (.tuple [.int k, d]) :: enI fr (k + 1) ds
def mkEn : Sl → Option (List Sl)
  | .val fr (.list ds) => some (enI fr 0 ds)
  | _ => none
/-- a tuple's items -/
def mkTp : Sl → Option (List Sl)
  | .val fr (.tuple ds) => some (ds.map (mkv fr))
  | _ => none
theorem LF.sqt {fr : Bool} {p : Addr} {vs : List V} (h : LF K H0 B fr p (.tup vs)) : SqT K B p vs := by
  cases fr with
  | true => exact SqT.of (nw_same _ _ h)
  | false => exact h
theorem itt_ok {fr : Bool} {p : Addr} {vs : List V} {ds : List PyData} (s : SqT K B p vs) (r : RepAll (LF K H0 B fr) vs ds) : ItOk K H0 B (Itt K p) (ds.map (mkv fr)) where
  go := fun i B' H' h1 h2 hi => by
    rw [List.length_map, ← r.length] at hi
    exact ⟨vs, vs[i], Same.sqt h2 (Same.sqt h1 s), by simp [hi]⟩
  yld := fun i B' H' x H'' u h1 h2 h3 hu hy => by
    obtain ⟨rfl, hy⟩ := hy
    obtain ⟨d, hd, rfl⟩ := map_at hu
    obtain ⟨v, hv, rv⟩ := r.at hd
    have e := hy vs (Same.sqt h2 (Same.sqt h1 s))
    rw [hv] at e
    cases e
    exact ⟨B', Nx.refl h2, mkv_rep (H := H'') (rv.mono (LF.mono h1))⟩
  stop := fun i B' H' h1 h2 hi => by
    rw [List.length_map, ← r.length] at hi
    exact ⟨vs, Same.sqt h2 (Same.sqt h1 s), hi⟩
theorem pidT (he : PD X H0 W e f) : PID X H0 W tg e (iM mkTp f) :=
  ⟨piWeak (pi_tup he.z) fun σ H R ⟨B, ρ, E, q⟩ => ⟨B, ρ, E, im_ok q fun s its v B1 H1 n1 r1 hz h2 => by
    unfold mkTp at hz
    split at hz
    · rename_i fr ds
      cases hz
      obtain ⟨p, vs, rfl, s1, a1⟩ := Rep.tupV r1
      exact ⟨p, rfl, ⟨vs, LF.toH n1.bh p _ s1⟩, h2 _ (itt_ok (LF.sqt s1) a1)⟩
    · cases hz⟩⟩
def zpI (fr : Bool) : List PyData → List PyData → List Sl
  | d :: ds, e :: es => .val fr (.tuple [d, e]) :: zpI fr ds es
  | _, _ => []
def mkZp : Sl → Sl → Option (List Sl)
  | .val fr (.list ds), .val fr' (.list es) => some (zpI (fr && fr') ds es)
  | _, _ => none
def iZp (f g : EF) : IF := fun ρ => match f ρ with
  | some (.ok s) => iM (mkZp (frz s)) g ρ
  | some (.ex n) => some (.ex n)
  | none => none
theorem OKI.nx {o : Option Ri} {R : It → Hp → Prop} (q : OKI K mg H0 W B H σ o R) (n : Nx B H B' H') : OKI K mg H0 W B' H' σ o R := by
  rcases q with ⟨its, h1, h2⟩ | ⟨m, h1, h2⟩
  · exact .inl ⟨its, h1, fun J B2 H2 n2 => h2 J B2 H2 (n.trans n2)⟩
  · exact .inr ⟨m, h1, h2.nx n⟩
end
end PL
namespace PL
open PySem PySem.Spec PyProof.Rows L2
def fgt : List Nat → Ev → Ev
  | [], ρ => ρ
  | i :: D, ρ => fgt D (ρ.set i .und)
theorem ER.fgt {K : PySem.W.Frag} {H0 : En} {B H : Hp} {σ : L2.St} : ∀ (D : List Nat) {ρ : Ev}, ER K H0 B H σ ρ → ER K H0 B H σ (fgt D ρ)
  | [], _, E => E
  | i :: D, ρ, E => by
    refine ER.fgt D (ρ := ρ.set i .und) ?_
    obtain ⟨F, f1, f2, f3, f4⟩ := E.ex
    refine ⟨E.e0, E.b0, E.n0, E.eB, by rw [List.length_set]; exact E.len, F, f1, f2, f3, fun j u hu => ?_⟩
    by_cases hj : j = i
    · subst hj
      have hl : j < ρ.length := by have := (List.getElem?_eq_some_iff.mp hu).1; rwa [List.length_set] at this
      rw [List.getElem?_set_self hl] at hu
      cases hu
      trivial
    · rw [List.getElem?_set_ne (Ne.symm hj)] at hu
      exact f4 j u hu
section
variable {X : Cx} {H0 : En} {W : WX} {K : PySem.W.Frag} {B H : Hp} {σ : L2.St} {ρ : Ev} {sts : List Stmt} {F : SF} {e c tg : Expr} {pos : Pos} {t : BF}
def sFg (D : List Nat) (F : SF) : SF := fun ρ => F (fgt D ρ)
theorem psdsFg {D : List Nat} (h : PSDs X H0 W sts F) : PSDs X H0 W sts (sFg D F) := psdsGhost (fun ρ => some (fgt D ρ)) (fun B H σ ρ ρ' E q => by cases q; exact ⟨B, E.fgt D, Same.refl _⟩) h
def turn (D : List Nat) (t : GF) (body : SF) (s : Sl) (ρ : Ev) : Option Out := match t s ρ with
  | none => none
  | some ρ1 => match body ρ1 with
    | some (.nx ρ2) => some (.nx (fgt D ρ2))
    | some (.ct ρ2) => some (.nx (fgt D ρ2))
    | some (.bk ρ2) => some (.bk (fgt D ρ2))
    | r => r
def forT (tn : Sl → Ev → Option Out) : List Sl → Ev → Option Out
  | [], ρ => some (.nx ρ)
  | s :: ss, ρ => match tn s ρ with
    | some (.nx ρ2) => forT tn ss ρ2
    | some (.bk ρ2) => some (.nx ρ2)
    | r => r
def sForD (D : List Nat) (g : IF) (t : GF) (body : SF) : SF := fun ρ => match g ρ with
  | some (.ok its) => forT (turn D t body) its (fgt D ρ)
  | some (.ex n) => some (.ex n ρ)
  | none => none
theorem psdForD {D : List Nat} {g : IF} {tt : GF} (hp : PassesOwn (model X.prog X.w) X.A X.env X.xe) (hc : X.calm = true) (hi : PID X H0 W tg e g) (hg : PGD X H0 tg tt) (hb : PSDs X H0 W sts F) (hs : ∀ x, foldedSetIterable e X.env x = pure x := by intro _; rfl) : PSD X H0 W (.For tg e sts [] pos) (sForD D g tt F) := ⟨psWeak (ps_for hp hc hi.pi hg.pg hb.pss hs) fun D' σ H ⟨B, ρ, o, E, h, ho⟩ => ⟨B, ρ, E, by
  unfold sForD at h
  cases r : g ρ with
  | none => rw [r] at h; cases h
  | some q =>
    rw [r] at h
    cases q with
    | ex n => cases h; exact .inr ⟨n, rfl, kx_of E ho⟩
    | ok its =>
      refine .inl ⟨its, rfl, fun J B1 H1 n1 I1 => ?_⟩
      dsimp only at h
      refine ⟨fun i m σ H => m = its.length - i ∧ i ≤ its.length ∧ ∃ B2 ρ2, ER X.K H0 B2 H σ ρ2 ∧ Same B1 B2 ∧ forT (turn D tt F) (its.drop i) ρ2 = some o, ⟨_, rfl, Nat.zero_le _, B1, fgt D ρ, (E.nx n1).fgt D, Same.refl _, h⟩, ?_⟩
      rintro i m σ3 H3 ⟨rfl, hi, B2, ρ2, E2, s2, h2⟩
      by_cases hlt : i < its.length
      · refine .inr ⟨I1.go i B2 H3 s2 E2.eB hlt, ?_⟩
        have hd : its.drop i = its[i] :: its.drop (i + 1) := List.drop_eq_getElem_cons hlt
        rw [hd] at h2
        unfold forT turn at h2
        cases rt : tt its[i] ρ2 with
        | none => rw [rt] at h2; cases h2
        | some ρ3 =>
          rw [rt] at h2
          dsimp only at h2
          refine ⟨fun σ' H' => ∃ B4 ρ4, ER X.K H0 B4 H' σ' ρ4 ∧ Same B1 B4 ∧ forT (turn D tt F) (its.drop (i + 1)) ρ4 = some o, fun σ' H' ⟨B4, ρ4, E4, s4, h4⟩ => ⟨_, by omega, rfl, hlt, B4, ρ4, E4, s4, h4⟩, fun x H4 hy => ?_⟩
          obtain ⟨B3, n3, rz⟩ := I1.yld i B2 H3 x H4 its[i] s2 E2.eB E2.e0 (List.getElem?_eq_getElem hlt) hy
          refine ⟨B3, ρ2, its[i], ρ3, E2.nx n3, rz, rt, fun σ5 E5 => ?_⟩
          have s15 : Same B1 B3 := s2.trans n3.b
          cases rb : F ρ3 with
          | none => rw [rb] at h2; cases h2
          | some ob =>
            rw [rb] at h2
            refine ⟨B3, ρ3, ob, E5, rb, ?_⟩
            cases ob with
            | nx ρ6 => exact fun σ6 B6 H6 E6 s6 => ⟨B6, _, E6.fgt D, s15.trans s6, h2⟩
            | ct ρ6 => exact fun σ6 B6 H6 E6 s6 => ⟨B6, _, E6.fgt D, s15.trans s6, h2⟩
            | bk ρ6 => cases h2; exact fun σ6 B6 H6 E6 s6 => ho σ6 B6 H6 (E6.fgt D) ((n1.b.trans s15).trans s6)
            | rt s => cases h2; exact ho.same (n1.b.trans s15)
            | ex n ρ6 => cases h2; exact ho.same (n1.b.trans s15)
      · have ei : i = its.length := by omega
        subst ei
        rw [List.drop_length] at h2
        cases h2
        exact .inl ⟨I1.stop _ B2 H3 s2 E2.eB (Nat.le_refl _), ho σ3 B2 H3 E2 (n1.b.trans s2)⟩⟩⟩
def wturn (D : List Nat) (t : BF) (body : SF) (ρ : Ev) : Option Out := match t ρ with
  | some (.ok true) => match body ρ with
    | some (.nx ρ2) => some (.nx (fgt D ρ2))
    | some (.ct ρ2) => some (.nx (fgt D ρ2))
    | some (.bk ρ2) => some (.bk (fgt D ρ2))
    | r => r
  | some (.ok false) => some (.bk ρ)
  | some (.ex n) => some (.ex n ρ)
  | none => none
def whileT (wt : Ev → Option Out) : Nat → Ev → Option Out
  | 0, _ => none
  | n + 1, ρ => match wt ρ with
    | some (.nx ρ2) => whileT wt n ρ2
    | some (.bk ρ2) => some (.nx ρ2)
    | r => r
def fuel : Nat := 1000000000000000000
def sWhileD (D : List Nat) (t : BF) (body : SF) : SF := fun ρ => whileT (wturn D t body) fuel (fgt D ρ)
theorem psdWhileD {D : List Nat} (hp : PassesOwn (model X.prog X.w) X.A X.env X.xe) (hc : PB X H0 W c t) (hb : PSDs X H0 W sts F) : PSD X H0 W (.While c sts [] pos) (sWhileD D t F) := ⟨psWeak (ps_while hp hc.pt hb.pss) fun D' σ H ⟨B, ρ, o, E, h, ho⟩ => by
  unfold sWhileD at h
  generalize fuel = N at h
  refine ⟨fun m σ H => ∃ B2 ρ2, ER X.K H0 B2 H σ ρ2 ∧ Same B B2 ∧ whileT (wturn D t F) m ρ2 = some o, ⟨N, B, _, E.fgt D, Same.refl _, h⟩, ?_⟩
  rintro m σ3 H3 ⟨B2, ρ2, E2, s2, h2⟩
  cases m with
  | zero => cases h2
  | succ m =>
    refine ⟨B2, ρ2, E2, ?_⟩
    unfold whileT wturn at h2
    cases r : t ρ2 with
    | none => rw [r] at h2; cases h2
    | some q =>
      rw [r] at h2
      cases q with
      | ex n => cases h2; exact .inr ⟨n, rfl, kx_of E2 (ho.same s2)⟩
      | ok b =>
        refine .inl ⟨b, rfl, fun B4 H4 n4 => ?_⟩
        cases b with
        | false => rw [if_neg Bool.false_ne_true]; cases h2; exact ho σ3 B4 H4 (E2.nx n4) (s2.trans n4.b)
        | true =>
          rw [if_pos rfl]
          dsimp only at h2
          refine ⟨fun σ' H' => ∃ B5 ρ5, ER X.K H0 B5 H' σ' ρ5 ∧ Same B B5 ∧ whileT (wturn D t F) m ρ5 = some o, fun σ' H' ⟨B5, ρ5, E5, s5, h5⟩ => ⟨m, Nat.lt_succ_self m, B5, ρ5, E5, s5, h5⟩, ?_⟩
          have s14 : Same B B4 := s2.trans n4.b
          cases rb : F ρ2 with
          | none => rw [rb] at h2; cases h2
          | some ob =>
            rw [rb] at h2
            refine ⟨B4, ρ2, ob, E2.nx n4, rb, ?_⟩
            cases ob with
            | nx ρ6 => exact fun σ6 B6 H6 E6 s6 => ⟨B6, _, E6.fgt D, s14.trans s6, h2⟩
            | ct ρ6 => exact fun σ6 B6 H6 E6 s6 => ⟨B6, _, E6.fgt D, s14.trans s6, h2⟩
            | bk ρ6 => cases h2; exact fun σ6 B6 H6 E6 s6 => ho σ6 B6 H6 (E6.fgt D) (s14.trans s6)
            | rt s => cases h2; exact ho.same s14
            | ex n ρ6 => cases h2; exact ho.same s14⟩
end
theorem forT_inv {α : Type} {tn : Sl → Ev → Option Out} {mk : α → Sl} (P : List α → Ev → Prop) (h : ∀ a l ρ, P (a :: l) ρ → ∃ ρ', tn (mk a) ρ = some (.nx ρ') ∧ P l ρ') : ∀ (l : List α) (ρ : Ev), P l ρ → ∃ ρ', forT tn (l.map mk) ρ = some (.nx ρ') ∧ P [] ρ'
  | [], ρ, p => ⟨ρ, rfl, p⟩
  | a :: l, ρ, p => by
    obtain ⟨ρ', h1, h2⟩ := h a l ρ p
    obtain ⟨ρ2, h3, h4⟩ := forT_inv P h l ρ' h2
    refine ⟨ρ2, ?_, h4⟩
    rw [List.map_cons, forT, h1]
    exact h3
theorem forT_nx {α : Type} {tn : Sl → Ev → Option Out} {mk : α → Sl} (P : List α → Ev → Prop) (R : Option Out → Prop) {l : List α} {ρ : Ev} (p : P l ρ) (h : ∀ a l ρ, P (a :: l) ρ → ∃ ρ', tn (mk a) ρ = some (.nx ρ') ∧ P l ρ') (h0 : ∀ ρ, P [] ρ → R (some (.nx ρ))) : R (forT tn (l.map mk) ρ) := by
  obtain ⟨ρ', h1, h2⟩ := forT_inv P h l ρ p
  rw [h1]
  exact h0 ρ' h2
theorem whileT_run {wt : Ev → Option Out} (P : Nat → Ev → Prop) (R : Option Out → Prop)
    (h : ∀ m ρ, P m ρ → (∃ ρ' m', m' < m ∧ wt ρ = some (.nx ρ') ∧ P m' ρ') ∨ (∃ ρ', wt ρ = some (.bk ρ') ∧ R (some (.nx ρ'))) ∨ (∃ s, wt ρ = some (.rt s) ∧ R (some (.rt s))) ∨ ∃ n ρ', wt ρ = some (.ex n ρ') ∧ R (some (.ex n ρ'))) : ∀ (n m : Nat) (ρ : Ev), m < n → P m ρ → R (whileT wt n ρ)
  | 0, _, _, hm, _ => absurd hm (Nat.not_lt_zero _)
  | n + 1, m, ρ, hm, p => by
    rw [whileT]
    rcases h m ρ p with ⟨ρ', m', hlt, h1, h2⟩ | ⟨ρ', h1, h2⟩ | ⟨s, h1, h2⟩ | ⟨n', ρ', h1, h2⟩
    · rw [h1]; exact whileT_run P R h n m' ρ' (by omega) h2
    · rw [h1]; exact h2
    · rw [h1]; exact h2
    · rw [h1]; exact h2
section
universe u v
variable {α : Type u} {β : Type v}
theorem bs1 (a : α) (l : List α) : (a :: l)[0]? = some a := rfl
theorem bs2 (a : α) (l : List α) (n : Nat) : (a :: l)[n + 1]? = l[n]? := rfl
theorem bs3 (a b : α) (l : List α) : (a :: l).set 0 b = b :: l := rfl
theorem bs4 (a b : α) (l : List α) (n : Nat) : (a :: l).set (n + 1) b = a :: l.set n b := rfl
theorem bs5 (p : α → Bool) : ([] : List α).all p = true := rfl
theorem bs6 (p : α → Bool) (a : α) (l : List α) : (a :: l).all p = (p a && l.all p) := rfl
theorem bs7 (b : Bool) : (b && true) = b := Bool.and_true b
theorem bs8 (b : Bool) : (true && b) = b := Bool.true_and b
theorem bs9 (b : Bool) : (b || true) = true := Bool.or_true b
theorem bs10 (b : Bool) : (true || b) = true := Bool.true_or b
theorem bs11 (b : Bool) : (b || false) = b := Bool.or_false b
theorem bs12 (b : Bool) : (false || b) = b := Bool.false_or b
theorem bs13 (b : Bool) : (b && false) = false := Bool.and_false b
theorem bs14 (b : Bool) : (false && b) = false := Bool.false_and b
theorem bs15 : (!true) = false := rfl
theorem bs16 : (!false) = true := rfl
theorem bs17 (b : Bool) : (false ^^ b) = b := Bool.false_xor b
theorem bs18 (b : Bool) : (true ^^ b) = !b := Bool.true_xor b
theorem bs19 (f : α → β) (a : α) : (some a).map f = some (f a) := rfl
theorem bs20 : ([] : List α).length = 0 := rfl
theorem bs21 (a : α) (l : List α) : (a :: l).length = l.length + 1 := rfl
theorem bs22 (f : α → β) (l : List α) : (l.map f).length = l.length := List.length_map ..
theorem bs23 (l : List α) : [] ++ l = l := rfl
theorem bs24 (f : α → β) (a : α) (l : List α) : (a :: l).map f = f a :: l.map f := rfl
theorem bs25 (f : α → β) : ([] : List α).map f = [] := rfl
theorem bs26 : (¬ True) = False := not_true_eq_false
theorem bs27 : (¬ False) = True := not_false_eq_true
theorem bs28 (n : Nat) : 0 ≤ n := Nat.zero_le n
theorem bs29 (p : Prop) : (p ∧ p) = p := and_self p
theorem bs30 (p : Prop) : (True ∧ p) = p := true_and p
theorem bs31 (p : Prop) : (p ∧ True) = p := and_true p
theorem bs32 (a b : α) : (a ≠ b) = ¬ a = b := rfl
theorem bs33 (i : Int) : PL.scal (.int i) = true := rfl
theorem bs34 (i : Bool) : PL.scal (.bool i) = true := rfl
theorem bs35 (i : Str) : PL.scal (.str i) = true := rfl
theorem bs36 : PL.scal .none = true := rfl
theorem bs37 (i : List PyData) : PL.scal (.list i) = false := rfl
theorem bs38 (i : List PyData) : PL.scal (.tuple i) = false := rfl
theorem bs39 : ((0 : Nat) : Int) = 0 := rfl
theorem bs40 : ((1 : Nat) : Int) = 1 := rfl
theorem bs41 (n : Nat) : ((OfNat.ofNat n : Nat) : Int) = OfNat.ofNat n := rfl
end
def kSeq (o : Option Out) (g : SF) : Option Out := match o with | some (.nx ρ') => g ρ' | r => r
theorem ev_seq (f g : SF) (ρ : Ev) : sSeq f g ρ = kSeq (f ρ) g := rfl
theorem kSeq_nx (ρ : Ev) (g : SF) : kSeq (some (.nx ρ)) g = g ρ := rfl
theorem kSeq_rt (s : Sl) (g : SF) : kSeq (some (.rt s)) g = some (.rt s) := rfl
theorem kSeq_bk (s : Ev) (g : SF) : kSeq (some (.bk s)) g = some (.bk s) := rfl
theorem kSeq_ct (s : Ev) (g : SF) : kSeq (some (.ct s)) g = some (.ct s) := rfl
theorem kSeq_ex (n : Str) (s : Ev) (g : SF) : kSeq (some (.ex n s)) g = some (.ex n s) := rfl
theorem ev_nil (ρ : Ev) : sNil ρ = some (.nx ρ) := rfl
theorem ev_pass (ρ : Ev) : sPass ρ = some (.nx ρ) := rfl
theorem ev_break (ρ : Ev) : sBreak ρ = some (.bk ρ) := rfl
theorem ev_cont (ρ : Ev) : sCont ρ = some (.ct ρ) := rfl
theorem ev_retn (ρ : Ev) : sRetN ρ = some (.rt (.val true .none)) := rfl
theorem ev_fg (D : List Nat) (F : SF) (ρ : Ev) : sFg D F ρ = F (fgt D ρ) := rfl
theorem fgt_nil (ρ : Ev) : fgt [] ρ = ρ := rfl
theorem fgt_cons (i : Nat) (D : List Nat) (ρ : Ev) : fgt (i :: D) ρ = fgt D (ρ.set i .und) := rfl
def kGh (o : Option Ev) (F : SF) : Option Out := match o with | some ρ' => F ρ' | none => none
theorem ev_gh (g : Ev → Option Ev) (F : SF) (ρ : Ev) : gh g F ρ = kGh (g ρ) F := rfl
theorem kGh_some (ρ : Ev) (F : SF) : kGh (some ρ) F = F ρ := rfl
def kFrz (i : Nat) (ρ : Ev) (o : Option Sl) : Option Ev := match o with | some s => some (ρ.set i (frz s)) | none => none
theorem ev_gfrz (i : Nat) (ρ : Ev) : gFrz i ρ = kFrz i ρ ρ[i]? := by unfold gFrz kFrz; rfl
theorem kFrz_some (i : Nat) (ρ : Ev) (s : Sl) : kFrz i ρ (some s) = some (ρ.set i (frz s)) := rfl
def kOwn (i : Nat) (ρ : Ev) (o : Option Sl) : Option Ev := match o with | some (.full (.list ds)) => some (ρ.set i (.own true ds)) | some _ => some ρ | none => none
theorem ev_gown (i : Nat) (ρ : Ev) : gOwn i ρ = kOwn i ρ ρ[i]? := by unfold gOwn kOwn; rfl
theorem kOwn_full (i : Nat) (ρ : Ev) (ds : List PyData) : kOwn i ρ (some (.full (.list ds))) = some (ρ.set i (.own true ds)) := rfl
theorem kOwn_own (i : Nat) (ρ : Ev) (fr : Bool) (ds : List PyData) : kOwn i ρ (some (.own fr ds)) = some ρ := rfl
theorem kOwn_val (i : Nat) (ρ : Ev) (fr : Bool) (d : PyData) : kOwn i ρ (some (.val fr d)) = some ρ := rfl
def kSetZ (i : Nat) (ρ : Ev) (o : Option Rs) : Option Out := bSz o ρ fun s => if stb s = true then some (.nx (ρ.set i s)) else none
theorem ev_setZ (i : Nat) (f : EF) (ρ : Ev) : sSetZ i f ρ = kSetZ i ρ (f ρ) := rfl
theorem kSetZ_val (i : Nat) (ρ : Ev) (fr : Bool) (d : PyData) : kSetZ i ρ (some (.ok (.val fr d))) = some (.nx (ρ.set i (.val fr d))) := rfl
theorem kSetZ_own (i : Nat) (ρ : Ev) (fr : Bool) (d : List PyData) : kSetZ i ρ (some (.ok (.own fr d))) = some (.nx (ρ.set i (.val fr (.list d)))) := rfl
theorem kSetZ_full (i : Nat) (ρ : Ev) (d : PyData) : kSetZ i ρ (some (.ok (.full d))) = some (.nx (ρ.set i (.val true d))) := rfl
theorem kSetZ_ex (i : Nat) (ρ : Ev) (n : Str) : kSetZ i ρ (some (.ex n)) = some (.ex n ρ) := rfl
def kSet (i : Nat) (ρ : Ev) (o : Option Rs) : Option Out := bS o ρ fun s => if stb s = true then some (.nx (ρ.set i s)) else none
theorem ev_set (i : Nat) (f : EF) (ρ : Ev) : sSet i f ρ = kSet i ρ (f ρ) := rfl
theorem kSet_val (i : Nat) (ρ : Ev) (fr : Bool) (d : PyData) : kSet i ρ (some (.ok (.val fr d))) = some (.nx (ρ.set i (.val fr d))) := rfl
theorem kSet_own (i : Nat) (ρ : Ev) (fr : Bool) (d : List PyData) : kSet i ρ (some (.ok (.own fr d))) = some (.nx (ρ.set i (.own fr d))) := rfl
theorem kSet_full (i : Nat) (ρ : Ev) (d : PyData) : kSet i ρ (some (.ok (.full d))) = some (.nx (ρ.set i (.full d))) := rfl
theorem kSet_ex (i : Nat) (ρ : Ev) (n : Str) : kSet i ρ (some (.ex n)) = some (.ex n ρ) := rfl
def kRet (ρ : Ev) (o : Option Rs) : Option Out := bS o ρ fun s => if stb s = true then some (.rt s) else none
theorem ev_ret (f : EF) (ρ : Ev) : sRet f ρ = kRet ρ (f ρ) := rfl
theorem kRet_val (ρ : Ev) (fr : Bool) (d : PyData) : kRet ρ (some (.ok (.val fr d))) = some (.rt (.val fr d)) := rfl
theorem kRet_own (ρ : Ev) (fr : Bool) (d : List PyData) : kRet ρ (some (.ok (.own fr d))) = some (.rt (.own fr d)) := rfl
theorem kRet_full (ρ : Ev) (d : PyData) : kRet ρ (some (.ok (.full d))) = some (.rt (.full d)) := rfl
theorem kRet_ex (ρ : Ev) (n : Str) : kRet ρ (some (.ex n)) = some (.ex n ρ) := rfl
def kRetO (o : Option Sl) : Option Out := match o with
  | some (.own fr ds) => some (.rt (.own fr ds))
  | some (.full d) => some (.rt (.full d))
  | some (.val fr d) => some (.rt (.val fr d))
  | _ => none
theorem ev_retO (i : Nat) (ρ : Ev) : sRetOwn i ρ = kRetO ρ[i]? := rfl
theorem kRetO_own (fr : Bool) (ds : List PyData) : kRetO (some (.own fr ds)) = some (.rt (.own fr ds)) := rfl
theorem kRetO_val (fr : Bool) (d : PyData) : kRetO (some (.val fr d)) = some (.rt (.val fr d)) := rfl
theorem kRetO_full (d : PyData) : kRetO (some (.full d)) = some (.rt (.full d)) := rfl
def kExpr (ρ : Ev) (o : Option Rs) : Option Out := bSz o ρ fun _ => some (.nx ρ)
theorem ev_expr (f : EF) (ρ : Ev) : sExpr f ρ = kExpr ρ (f ρ) := rfl
theorem kExpr_ok (ρ : Ev) (s : Sl) : kExpr ρ (some (.ok s)) = some (.nx ρ) := rfl
theorem kExpr_ex (ρ : Ev) (n : Str) : kExpr ρ (some (.ex n)) = some (.ex n ρ) := rfl
def kIf (o : Option Rb) (F G : SF) (ρ : Ev) : Option Out := match o with
  | some (.ok true) => F ρ
  | some (.ok false) => G ρ
  | some (.ex n) => some (.ex n ρ)
  | none => none
theorem ev_if (t : BF) (F G : SF) (ρ : Ev) : sIf t F G ρ = kIf (t ρ) F G ρ := rfl
theorem kIf_true (F G : SF) (ρ : Ev) : kIf (some (.ok true)) F G ρ = F ρ := rfl
theorem kIf_false (F G : SF) (ρ : Ev) : kIf (some (.ok false)) F G ρ = G ρ := rfl
def kFor (ρ ρ' : Ev) (o : Option Ri) (tn : Sl → Ev → Option Out) : Option Out := match o with
  | some (.ok its) => forT tn its ρ'
  | some (.ex n) => some (.ex n ρ)
  | none => none
theorem ev_for (D : List Nat) (g : IF) (t : GF) (b : SF) (ρ : Ev) : sForD D g t b ρ = kFor ρ (fgt D ρ) (g ρ) (turn D t b) := rfl
theorem kFor_ok (ρ ρ' : Ev) (its : List Sl) (tn : Sl → Ev → Option Out) : kFor ρ ρ' (some (.ok its)) tn = forT tn its ρ' := rfl
theorem ev_while (D : List Nat) (t : BF) (b : SF) (ρ : Ev) : sWhileD D t b ρ = whileT (wturn D t b) fuel (fgt D ρ) := rfl
def kTurn (D : List Nat) (o : Option Out) : Option Out := match o with
  | some (.nx ρ2) => some (.nx (fgt D ρ2))
  | some (.ct ρ2) => some (.nx (fgt D ρ2))
  | some (.bk ρ2) => some (.bk (fgt D ρ2))
  | r => r
def kTurn1 (D : List Nat) (o : Option Ev) (body : SF) : Option Out := match o with | none => none | some ρ1 => kTurn D (body ρ1)
theorem ev_turn (D : List Nat) (t : GF) (body : SF) (s : Sl) (ρ : Ev) : turn D t body s ρ = kTurn1 D (t s ρ) body := by
  unfold turn kTurn1 kTurn
  rfl
theorem kTurn1_some (D : List Nat) (ρ : Ev) (body : SF) : kTurn1 D (some ρ) body = kTurn D (body ρ) := rfl
theorem kTurn_nx (D : List Nat) (ρ : Ev) : kTurn D (some (.nx ρ)) = some (.nx (fgt D ρ)) := rfl
theorem kTurn_ct (D : List Nat) (ρ : Ev) : kTurn D (some (.ct ρ)) = some (.nx (fgt D ρ)) := rfl
theorem kTurn_bk (D : List Nat) (ρ : Ev) : kTurn D (some (.bk ρ)) = some (.bk (fgt D ρ)) := rfl
theorem kTurn_rt (D : List Nat) (s : Sl) : kTurn D (some (.rt s)) = some (.rt s) := rfl
theorem kTurn_ex (D : List Nat) (n : Str) (ρ : Ev) : kTurn D (some (.ex n ρ)) = some (.ex n ρ) := rfl
def kW (D : List Nat) (o : Option Rb) (body : SF) (ρ : Ev) : Option Out := match o with
  | some (.ok true) => kTurn D (body ρ)
  | some (.ok false) => some (.bk ρ)
  | some (.ex n) => some (.ex n ρ)
  | none => none
theorem ev_wturn (D : List Nat) (t : BF) (body : SF) (ρ : Ev) : wturn D t body ρ = kW D (t ρ) body ρ := by
  unfold wturn kW kTurn
  rfl
theorem kW_true (D : List Nat) (body : SF) (ρ : Ev) : kW D (some (.ok true)) body ρ = kTurn D (body ρ) := rfl
theorem kW_false (D : List Nat) (body : SF) (ρ : Ev) : kW D (some (.ok false)) body ρ = some (.bk ρ) := rfl
theorem ev_gN (i : Nat) (fr : Bool) (d : PyData) (ρ : Ev) : gN i (.val fr d) ρ = some (ρ.set i (.val fr d)) := rfl
def kT (is : List Nat) (ρ : Ev) (o : Option (List Sl)) : Option Ev := match o with | some ss => gSets is ss ρ | none => none
theorem ev_gT (is : List Nat) (s : Sl) (ρ : Ev) : gT is s ρ = kT is ρ (itemsT s) := rfl
theorem kT_some (is : List Nat) (ρ : Ev) (ss : List Sl) : kT is ρ (some ss) = gSets is ss ρ := rfl
theorem itemsT_val (fr : Bool) (ds : List PyData) : itemsT (.val fr (.tuple ds)) = some (ds.map (mkv fr)) := rfl
theorem gSets_nil (ρ : Ev) : gSets [] [] ρ = some ρ := rfl
theorem gSets_val (i : Nat) (is : List Nat) (fr : Bool) (d : PyData) (ss : List Sl) (ρ : Ev) : gSets (i :: is) (.val fr d :: ss) ρ = gSets is ss (ρ.set i (.val fr d)) := rfl
theorem mkv_int (fr : Bool) (i : Int) : mkv fr (.int i) = .val true (.int i) := by cases fr <;> rfl
theorem mkv_bool (fr : Bool) (i : Bool) : mkv fr (.bool i) = .val true (.bool i) := by cases fr <;> rfl
theorem mkv_str (fr : Bool) (i : Str) : mkv fr (.str i) = .val true (.str i) := by cases fr <;> rfl
theorem mkv_none (fr : Bool) : mkv fr .none = .val true .none := by cases fr <;> rfl
theorem mkv_list (fr : Bool) (ds : List PyData) : mkv fr (.list ds) = .val fr (.list ds) := by cases fr <;> rfl
theorem mkv_tuple (fr : Bool) (ds : List PyData) : mkv fr (.tuple ds) = .val fr (.tuple ds) := by cases fr <;> rfl
def kU (ρ : Ev) (o : Option Ev) : Option Out := match o with | some ρ' => some (.nx ρ') | none => none
def kUnp (is : List Nat) (ρ : Ev) (o : Option Rs) : Option Out := bSz o ρ fun s => kU ρ (gT is s ρ)
theorem ev_unp (is : List Nat) (f : EF) (ρ : Ev) : sUnp is f ρ = kUnp is ρ (f ρ) := by
  unfold sUnp kUnp kU
  rfl
theorem kUnp_val (is : List Nat) (ρ : Ev) (fr : Bool) (d : PyData) : kUnp is ρ (some (.ok (.val fr d))) = kU ρ (gT is (.val fr d) ρ) := rfl
theorem kUnp_full (is : List Nat) (ρ : Ev) (d : PyData) : kUnp is ρ (some (.ok (.full d))) = kU ρ (gT is (.val true d) ρ) := rfl
theorem kU_some (ρ ρ' : Ev) : kU ρ (some ρ') = some (.nx ρ') := rfl
def kA (i : Nat) (ρ : Ev) (o : Option Sl) : Option Out := match o with | some s => some (.nx (ρ.set i s)) | none => none
def kAug (i : Nat) (F : PyData → PyData → Option PyData) (ρ : Ev) (a b : Option Rs) : Option Out := bSz a ρ fun x => bSz b ρ fun y => kA i ρ (fD F x y)
theorem ev_aug (i : Nat) (F : PyData → PyData → Option PyData) (f : EF) (ρ : Ev) : sAug i F f ρ = kAug i F ρ (eVar i ρ) (f ρ) := by
  unfold sAug kAug kA
  rfl
theorem kAug_val (i : Nat) (F : PyData → PyData → Option PyData) (ρ : Ev) (fr fr' : Bool) (d d' : PyData) : kAug i F ρ (some (.ok (.val fr d))) (some (.ok (.val fr' d'))) = kA i ρ (fD F (.val fr d) (.val fr' d')) := rfl
theorem kA_some (i : Nat) (ρ : Ev) (s : Sl) : kA i ρ (some s) = some (.nx (ρ.set i s)) := rfl
def kApp (i : Nat) (ρ : Ev) (o : Option Sl) (r : Option Rs) : Option Out := match o with
  | some (.own fr ds) => bSz r ρ fun s => match stor s with
    | some (f', d) => if ds.length < 16777216 then some (.nx (ρ.set i (.own (fr && f') (ds ++ [d])))) else none
    | none => none
  | _ => none
theorem ev_app (i : Nat) (f : EF) (ρ : Ev) : sApp i f ρ = kApp i ρ ρ[i]? (f ρ) := by
  unfold sApp kApp
  rfl
theorem kApp_val (i : Nat) (ρ : Ev) (fr : Bool) (ds : List PyData) (f' : Bool) (d : PyData) (h : ds.length < 16777216) : kApp i ρ (some (.own fr ds)) (some (.ok (.val f' d))) = some (.nx (ρ.set i (.own (fr && (f' || scal d)) (ds ++ [d])))) := by
  show (if ds.length < 16777216 then _ else _) = _
  rw [if_pos h]
theorem kApp_own (i : Nat) (ρ : Ev) (fr : Bool) (ds : List PyData) (f' : Bool) (d : List PyData) (h : ds.length < 16777216) : kApp i ρ (some (.own fr ds)) (some (.ok (.own f' d))) = some (.nx (ρ.set i (.own (fr && f') (ds ++ [.list d])))) := by
  show (if ds.length < 16777216 then some (Out.nx (ρ.set i (.own (fr && (f' || false)) (ds ++ [.list d])))) else _) = _
  rw [if_pos h, Bool.or_false]
theorem kApp_full (i : Nat) (ρ : Ev) (fr : Bool) (ds : List PyData) (d : PyData) (h : ds.length < 16777216) : kApp i ρ (some (.own fr ds)) (some (.ok (.full d))) = some (.nx (ρ.set i (.own fr (ds ++ [d])))) := by
  show (if ds.length < 16777216 then some (Out.nx (ρ.set i (.own (fr && (true || scal d)) (ds ++ [d])))) else _) = _
  rw [if_pos h, Bool.true_or, Bool.and_true]
def kPut (i : Nat) (ρ : Ev) (o : Option Sl) (r q : Option Rs) : Option Out := match o with
  | some (.own fr ds) => bSz r ρ fun s => bSz q ρ fun z => match stor s with
    | some (f', d) => match dat z with
      | some (.int k) => match ixN ds.length k with
        | some j => some (.nx (ρ.set i (.own (fr && f') (ds.set j d))))
        | none => none
      | _ => none
    | none => none
  | _ => none
theorem ev_put (i : Nat) (g f : EF) (ρ : Ev) : sPut i g f ρ = kPut i ρ ρ[i]? (f ρ) (g ρ) := by
  unfold sPut kPut
  rfl
theorem kPut_val (i : Nat) (ρ : Ev) (fr : Bool) (ds : List PyData) (f' f'' : Bool) (d : PyData) (k : Int) (j : Nat) (h : ixN ds.length k = some j) : kPut i ρ (some (.own fr ds)) (some (.ok (.val f' d))) (some (.ok (.val f'' (.int k)))) = some (.nx (ρ.set i (.own (fr && (f' || scal d)) (ds.set j d)))) := by
  show (match ixN ds.length k with | some j => some (Out.nx (ρ.set i (.own (fr && (f' || scal d)) (ds.set j d)))) | none => none) = _
  rw [h]
def kF (o : Option Out) : Option FR := match o with
  | some (.nx _) => some (.ret true .none)
  | some (.rt s) => frOf s
  | some (.ex m _) => some (.exc m)
  | _ => none
theorem callF_eq (n : Nat) (F : SF) (ds : List PyData) : callF n F ds = kF (F (entE n ds)) := rfl
def unds (n : Nat) : Ev := List.replicate n .und
theorem entE_nil (n : Nat) : entE n [] = unds n := rfl
theorem unds_succ (n : Nat) : unds (n + 1) = .und :: unds n := rfl
theorem unds_zero : unds 0 = [] := rfl
theorem entE_cons (n : Nat) (d : PyData) (ds : List PyData) : entE (n + 1) (d :: ds) = entS d :: entE n ds := by
  unfold entE
  rw [List.map_cons, List.length_cons, Nat.add_sub_add_right]
  rfl
theorem entS_int (i : Int) : entS (.int i) = .val true (.int i) := rfl
theorem entS_bool (i : Bool) : entS (.bool i) = .val true (.bool i) := rfl
theorem entS_str (i : Str) : entS (.str i) = .val true (.str i) := rfl
theorem entS_none : entS .none = .val true .none := rfl
theorem entS_list (i : List PyData) : entS (.list i) = .val false (.list i) := rfl
theorem entS_tuple (i : List PyData) : entS (.tuple i) = .val false (.tuple i) := rfl
theorem kF_nx (ρ : Ev) : kF (some (.nx ρ)) = some (.ret true .none) := rfl
theorem kF_rt (s : Sl) : kF (some (.rt s)) = frOf s := rfl
theorem kF_ex (n : Str) (ρ : Ev) : kF (some (.ex n ρ)) = some (.exc n) := rfl
theorem frOf_val (fr : Bool) (d : PyData) : frOf (.val fr d) = some (.ret (fr || scal d) d) := rfl
theorem frOf_own (fr : Bool) (d : List PyData) : frOf (.own fr d) = some (.ret fr (.list d)) := rfl
theorem frOf_full (d : PyData) : frOf (.full d) = some (.ret true d) := rfl
def kVar (o : Option Sl) : Option Rs := match o with
  | some (.val fr d) => some (.ok (.val fr d))
  | some (.own fr ds) => some (.ok (.bor fr ds))
  | some (.full d) => some (.ok (.brf d))
  | _ => none
theorem ev_var (i : Nat) (ρ : Ev) : eVar i ρ = kVar ρ[i]? := by unfold eVar kVar; rfl
theorem kVar_val (fr : Bool) (d : PyData) : kVar (some (.val fr d)) = some (.ok (.val fr d)) := rfl
theorem kVar_own (fr : Bool) (d : List PyData) : kVar (some (.own fr d)) = some (.ok (.bor fr d)) := rfl
theorem kVar_full (d : PyData) : kVar (some (.full d)) = some (.ok (.brf d)) := rfl
theorem ev_c (d : PyData) (ρ : Ev) : eC d ρ = some (.ok (.val true d)) := rfl
def k2 (F : Sl → Sl → Option Sl) (a b : Option Rs) : Option Rs := PL.bz a fun x => PL.bz b fun y => okO (F x y)
theorem ev_e2 (F : Sl → Sl → Option Sl) (f g : EF) (ρ : Ev) : e2 F f g ρ = k2 F (f ρ) (g ρ) := rfl
theorem k2_ok (F : Sl → Sl → Option Sl) (x y : Sl) : k2 F (some (.ok x)) (some (.ok y)) = okO (F (frz x) (frz y)) := rfl
theorem okO_some (s : Sl) : okO (some s) = some (.ok s) := rfl
def k1 (F : Sl → Option Sl) (a : Option Rs) : Option Rs := PL.bz a fun x => okO (F x)
theorem ev_e1 (F : Sl → Option Sl) (f : EF) (ρ : Ev) : e1 F f ρ = k1 F (f ρ) := rfl
theorem k1_ok (F : Sl → Option Sl) (x : Sl) : k1 F (some (.ok x)) = okO (F (frz x)) := rfl
theorem frz_val (fr : Bool) (d : PyData) : frz (.val fr d) = .val fr d := rfl
theorem frz_own (fr : Bool) (d : List PyData) : frz (.own fr d) = .val fr (.list d) := rfl
theorem frz_full (d : PyData) : frz (.full d) = .val true d := rfl
theorem frz_bor (fr : Bool) (d : List PyData) : frz (.bor fr d) = .bor fr d := rfl
theorem frz_brf (d : PyData) : frz (.brf d) = .brf d := rfl
theorem dat_val (fr : Bool) (d : PyData) : dat (.val fr d) = some d := rfl
theorem dat_bor (fr : Bool) (d : List PyData) : dat (.bor fr d) = some (.list d) := rfl
theorem dat_brf (d : PyData) : dat (.brf d) = some d := rfl
def kC (o : Option Rs) (r : Option Ra) : Option Ra := match o with
  | some (.ok s) => match r with
    | some (.ok ss) => some (.ok (frz s :: ss))
    | r => r
  | some (.ex n) => some (.ex n)
  | none => none
theorem ev_evs0 (ρ : Ev) : evs [] ρ = some (.ok []) := rfl
theorem ev_evs (f : EF) (fs : List EF) (ρ : Ev) : evs (f :: fs) ρ = kC (f ρ) (evs fs ρ) := by
  rw [evs.eq_def]; rfl
theorem kC_ok (s : Sl) (ss : List Sl) : kC (some (.ok s)) (some (.ok ss)) = some (.ok (frz s :: ss)) := rfl
def kCB (F : List Sl → Option Sl) (r : Option Ra) : Option Rs := PL.bzs r fun ss => okO (F ss)
theorem ev_cb (F : List Sl → Option Sl) (fs : List EF) (ρ : Ev) : eCB F fs ρ = kCB F (evs fs ρ) := rfl
theorem kCB_ok (F : List Sl → Option Sl) (ss : List Sl) : kCB F (some (.ok ss)) = okO (F ss) := rfl
def kCall (F : FN) (r : Option Ra) : Option Rs := PL.bzs r fun ss => cRes F ss
theorem ev_call (F : FN) (fs : List EF) (ρ : Ev) : eCall F fs ρ = kCall F (evs fs ρ) := rfl
theorem kCall_ok (F : FN) (ss : List Sl) : kCall F (some (.ok ss)) = cRes F ss := rfl
def kRes (r : Option FR) (v : Bool) : Option Rs := match r with
  | some (.ret true d) => some (.ok (if scal d = true then .val true d else .full d))
  | some (.ret false d) => if v = true then some (.ok (.val false d)) else none
  | some (.exc n) => some (.ex n)
  | none => none
def kRs (F : FN) (o : Option (List PyData)) (v : Bool) : Option Rs := match o with | some ds => kRes (F ds) v | none => none
theorem ev_cres (F : FN) (ss : List Sl) : cRes F ss = kRs F (dats ss) (ss.all isVal) := by
  unfold cRes kRs kRes
  rfl
theorem kRs_some (F : FN) (ds : List PyData) (v : Bool) : kRs F (some ds) v = kRes (F ds) v := rfl
theorem kRes_int (i : Int) (v : Bool) : kRes (some (.ret true (.int i))) v = some (.ok (.val true (.int i))) := rfl
theorem kRes_bool (i : Bool) (v : Bool) : kRes (some (.ret true (.bool i))) v = some (.ok (.val true (.bool i))) := rfl
theorem kRes_str (i : Str) (v : Bool) : kRes (some (.ret true (.str i))) v = some (.ok (.val true (.str i))) := rfl
theorem kRes_none (v : Bool) : kRes (some (.ret true .none)) v = some (.ok (.val true .none)) := rfl
theorem kRes_list (ds : List PyData) (v : Bool) : kRes (some (.ret true (.list ds))) v = some (.ok (.full (.list ds))) := rfl
theorem kRes_tuple (ds : List PyData) (v : Bool) : kRes (some (.ret true (.tuple ds))) v = some (.ok (.full (.tuple ds))) := rfl
theorem kRes_false (d : PyData) : kRes (some (.ret false d)) true = some (.ok (.val false d)) := rfl
theorem kRes_exc (n : Str) (v : Bool) : kRes (some (.exc n)) v = some (.ex n) := rfl
def kD (o : Option PyData) (r : Option (List PyData)) : Option (List PyData) := match o with
  | some d => match r with
    | some ds => some (d :: ds)
    | none => none
  | none => none
theorem dats_nil : dats [] = some [] := rfl
theorem dats_cons (s : Sl) (ss : List Sl) : dats (s :: ss) = kD (dat s) (dats ss) := by
  rw [dats.eq_def]; rfl
theorem kD_some (d : PyData) (ds : List PyData) : kD (some d) (some ds) = some (d :: ds) := rfl
theorem isVal_val (fr : Bool) (d : PyData) : isVal (.val fr d) = true := rfl
theorem isVal_bor (fr : Bool) (d : List PyData) : isVal (.bor fr d) = false := rfl
theorem isVal_brf (d : PyData) : isVal (.brf d) = false := rfl
def kIsa (g : PyData → Bool) (o : Option Rs) : Option Rs := PL.bz o fun x => match dat x with
  | some d => some (.ok (.val true (.bool (g d))))
  | none => none
theorem ev_isa (g : PyData → Bool) (f : EF) (ρ : Ev) : eIsa g f ρ = kIsa g (f ρ) := rfl
theorem kIsa_val (g : PyData → Bool) (fr : Bool) (d : PyData) : kIsa g (some (.ok (.val fr d))) = some (.ok (.val true (.bool (g d)))) := rfl
theorem kIsa_own (g : PyData → Bool) (fr : Bool) (d : List PyData) : kIsa g (some (.ok (.own fr d))) = some (.ok (.val true (.bool (g (.list d))))) := rfl
theorem kIsa_bor (g : PyData → Bool) (fr : Bool) (d : List PyData) : kIsa g (some (.ok (.bor fr d))) = some (.ok (.val true (.bool (g (.list d))))) := rfl
theorem kIsa_full (g : PyData → Bool) (d : PyData) : kIsa g (some (.ok (.full d))) = some (.ok (.val true (.bool (g d)))) := rfl
theorem kIsa_brf (g : PyData → Bool) (d : PyData) : kIsa g (some (.ok (.brf d))) = some (.ok (.val true (.bool (g d)))) := rfl
def kAnd (o : Option Rs) (g : EF) (ρ : Ev) : Option Rs := PL.bz o fun x => match dat x with
  | some (.bool true) => g ρ
  | some (.bool false) => some (.ok (.val true (.bool false)))
  | _ => none
theorem ev_and (f g : EF) (ρ : Ev) : eAnd f g ρ = kAnd (f ρ) g ρ := rfl
def kAnd2 (b : Bool) (r : Option Rs) : Option Rs := if b then r else some (.ok (.val true (.bool false)))
theorem kAnd_val (fr b : Bool) (g : EF) (ρ : Ev) : kAnd (some (.ok (.val fr (.bool b)))) g ρ = kAnd2 b (g ρ) := by cases b <;> rfl
theorem kAnd2_true (r : Option Rs) : kAnd2 true r = r := rfl
theorem kAnd2_false (r : Option Rs) : kAnd2 false r = some (.ok (.val true (.bool false))) := rfl
theorem kAnd2_val (b b' : Bool) : kAnd2 b (some (.ok (.val true (.bool b')))) = some (.ok (.val true (.bool (b && b')))) := by cases b <;> rfl
def kOr (o : Option Rs) (g : EF) (ρ : Ev) : Option Rs := PL.bz o fun x => match dat x with
  | some (.bool false) => g ρ
  | some (.bool true) => some (.ok (.val true (.bool true)))
  | _ => none
theorem ev_or (f g : EF) (ρ : Ev) : eOr f g ρ = kOr (f ρ) g ρ := rfl
def kOr2 (b : Bool) (r : Option Rs) : Option Rs := if b then some (.ok (.val true (.bool true))) else r
theorem kOr_val (fr b : Bool) (g : EF) (ρ : Ev) : kOr (some (.ok (.val fr (.bool b)))) g ρ = kOr2 b (g ρ) := by cases b <;> rfl
theorem kOr2_true (r : Option Rs) : kOr2 true r = some (.ok (.val true (.bool true))) := rfl
theorem kOr2_false (r : Option Rs) : kOr2 false r = r := rfl
theorem kOr2_val (b b' : Bool) : kOr2 b (some (.ok (.val true (.bool b')))) = some (.ok (.val true (.bool (b || b')))) := by cases b <;> rfl
def kNot (o : Option Rs) : Option Rs := PL.bz o fun x => match dat x with
  | some (.bool b) => some (.ok (.val true (.bool (!b))))
  | _ => none
theorem ev_not (f : EF) (ρ : Ev) : eNot f ρ = kNot (f ρ) := rfl
theorem kNot_val (fr b : Bool) : kNot (some (.ok (.val fr (.bool b)))) = some (.ok (.val true (.bool (!b)))) := rfl
def kIfE (o : Option Rb) (f g : EF) (ρ : Ev) : Option Rs := match o with
  | some (.ok true) => f ρ
  | some (.ok false) => g ρ
  | some (.ex n) => some (.ex n)
  | none => none
theorem ev_ife (t : BF) (f g : EF) (ρ : Ev) : eIf t f g ρ = kIfE (t ρ) f g ρ := rfl
theorem kIfE_true (f g : EF) (ρ : Ev) : kIfE (some (.ok true)) f g ρ = f ρ := rfl
theorem kIfE_false (f g : EF) (ρ : Ev) : kIfE (some (.ok false)) f g ρ = g ρ := rfl
def kB (o : Option Rs) : Option Rb := match o with
  | some (.ok (.val _ (.bool b))) => some (.ok b)
  | some (.ex n) => some (.ex n)
  | _ => none
theorem ev_bof (f : EF) (ρ : Ev) : bOf f ρ = kB (f ρ) := by unfold bOf kB; rfl
theorem kB_val (fr b : Bool) : kB (some (.ok (.val fr (.bool b)))) = some (.ok b) := rfl
def kTo (o : Option Rs) : Option Rb := match o with
  | some (.ok s) => match dat (frz s) with
    | some d => okB (truth d)
    | none => none
  | some (.ex n) => some (.ex n)
  | none => none
theorem ev_tof (f : EF) (ρ : Ev) : tOf f ρ = kTo (f ρ) := by unfold tOf kTo; rfl
theorem kTo_val (fr : Bool) (d : PyData) : kTo (some (.ok (.val fr d))) = okB (truth d) := rfl
theorem kTo_own (fr : Bool) (d : List PyData) : kTo (some (.ok (.own fr d))) = okB (truth (.list d)) := rfl
theorem kTo_bor (fr : Bool) (d : List PyData) : kTo (some (.ok (.bor fr d))) = okB (truth (.list d)) := rfl
theorem kTo_full (d : PyData) : kTo (some (.ok (.full d))) = okB (truth d) := rfl
theorem kTo_brf (d : PyData) : kTo (some (.ok (.brf d))) = okB (truth d) := rfl
theorem okB_some (b : Bool) : okB (some b) = some (.ok b) := rfl
theorem truth_bool (b : Bool) : truth (.bool b) = some b := rfl
theorem truth_int (b : Int) : truth (.int b) = some (b != 0) := rfl
theorem truth_none : truth .none = some false := rfl
theorem truth_list (b : List PyData) : truth (.list b) = some (!b.isEmpty) := rfl
theorem truth_tuple (b : List PyData) : truth (.tuple b) = some (!b.isEmpty) := rfl
def kNotB (o : Option Rb) : Option Rb := match o with | some (.ok b) => some (.ok (!b)) | r => r
theorem ev_bnot (f : BF) (ρ : Ev) : bNot f ρ = kNotB (f ρ) := rfl
theorem kNotB_ok (b : Bool) : kNotB (some (.ok b)) = some (.ok (!b)) := rfl
def kAndB (o : Option Rb) (g : BF) (ρ : Ev) : Option Rb := match o with | some (.ok true) => g ρ | r => r
theorem ev_band (f g : BF) (ρ : Ev) : bAnd f g ρ = kAndB (f ρ) g ρ := rfl
def kAndB2 (b : Bool) (r : Option Rb) : Option Rb := if b then r else some (.ok false)
theorem kAndB_ok (b : Bool) (g : BF) (ρ : Ev) : kAndB (some (.ok b)) g ρ = kAndB2 b (g ρ) := by cases b <;> rfl
theorem kAndB2_true (r : Option Rb) : kAndB2 true r = r := rfl
theorem kAndB2_false (r : Option Rb) : kAndB2 false r = some (.ok false) := rfl
theorem kAndB2_ok (b b' : Bool) : kAndB2 b (some (.ok b')) = some (.ok (b && b')) := by cases b <;> rfl
def kOrB (o : Option Rb) (g : BF) (ρ : Ev) : Option Rb := match o with | some (.ok false) => g ρ | r => r
theorem ev_bor (f g : BF) (ρ : Ev) : bOr f g ρ = kOrB (f ρ) g ρ := rfl
def kOrB2 (b : Bool) (r : Option Rb) : Option Rb := if b then some (.ok true) else r
theorem kOrB_ok (b : Bool) (g : BF) (ρ : Ev) : kOrB (some (.ok b)) g ρ = kOrB2 b (g ρ) := by cases b <;> rfl
theorem kOrB2_true (r : Option Rb) : kOrB2 true r = some (.ok true) := rfl
theorem kOrB2_false (r : Option Rb) : kOrB2 false r = r := rfl
theorem kOrB2_ok (b b' : Bool) : kOrB2 b (some (.ok b')) = some (.ok (b || b')) := by cases b <;> rfl
def kCh (G G' : PyData → PyData → Option PyData) (a b : Option Rs) (k : EF) (ρ : Ev) : Option Rs := PL.bz a fun x => PL.bz b fun y => match fD G x y with
  | some (.val _ (.bool true)) => PL.bz (k ρ) fun z => okO (fD G' y z)
  | some (.val _ (.bool false)) => some (.ok (.val true (.bool false)))
  | _ => none
theorem ev_chain (G G' : PyData → PyData → Option PyData) (f g k : EF) (ρ : Ev) : eChain G G' f g k ρ = kCh G G' (f ρ) (g ρ) k ρ := by
  unfold eChain kCh; rfl
def kCh2 (o : Option Sl) (G' : PyData → PyData → Option PyData) (y : Sl) (z : Option Rs) : Option Rs := match o with
  | some (.val _ (.bool true)) => PL.bz z fun z => okO (fD G' y z)
  | some (.val _ (.bool false)) => some (.ok (.val true (.bool false)))
  | _ => none
theorem kCh_ok (G G' : PyData → PyData → Option PyData) (x y : Sl) (k : EF) (ρ : Ev) : kCh G G' (some (.ok x)) (some (.ok y)) k ρ = kCh2 (fD G (frz x) (frz y)) G' (frz y) (k ρ) := by
  unfold kCh kCh2; rfl
theorem kCh2_false (fr : Bool) (G' : PyData → PyData → Option PyData) (y : Sl) (z : Option Rs) : kCh2 (some (.val fr (.bool false))) G' y z = some (.ok (.val true (.bool false))) := rfl
theorem kCh2_true (fr : Bool) (G' : PyData → PyData → Option PyData) (y z : Sl) : kCh2 (some (.val fr (.bool true))) G' y (some (.ok z)) = okO (fD G' y (frz z)) := rfl
def kS (o : Option PyData) : Option Sl := match o with | some r => if scal r = true then some (.val true r) else none | none => none
def kD2 (g : PyData → PyData → Option PyData) (a b : Option PyData) : Option Sl := match a with
  | some d => match b with
    | some e => kS (g d e)
    | none => none
  | none => none
theorem ev_fD (g : PyData → PyData → Option PyData) (x y : Sl) : fD g x y = kD2 g (dat x) (dat y) := by
  unfold fD kD2 kS; rfl
theorem kD2_some (g : PyData → PyData → Option PyData) (d e : PyData) : kD2 g (some d) (some e) = kS (g d e) := rfl
theorem kS_int (i : Int) : kS (some (.int i)) = some (.val true (.int i)) := rfl
theorem kS_bool (i : Bool) : kS (some (.bool i)) = some (.val true (.bool i)) := rfl
theorem kS_str (i : Str) : kS (some (.str i)) = some (.val true (.str i)) := rfl
theorem kS_none : kS (some .none) = some (.val true .none) := rfl
theorem ev_sub (i j : Int) : gSub (.int i) (.int j) = some (.int (i - j)) := rfl
theorem ev_addI (a b : Bool) (i j : Int) : fAdd (.val a (.int i)) (.val b (.int j)) = some (.val true (.int (i + j))) := rfl
theorem ev_iadd (i j : Int) : gI cT (· + ·) (.int i) (.int j) = some (.int (i + j)) := rfl
theorem ev_div (i j : Int) (h0 : 0 < j) (h : j < 1073741824) : gDiv (.int i) (.int j) = some (.int (i / j)) := by
  show (if cd (0 < j ∧ j < 1073741824) = true then _ else _) = _
  rw [if_pos (cd_true ⟨h0, h⟩)]
theorem ev_mod (i j : Int) (h0 : 0 < j) : gMod (.int i) (.int j) = some (.int (i % j)) := by
  show (if cd (0 < j) = true then _ else _) = _
  rw [if_pos (cd_true h0)]
theorem ev_pow (i j : Int) (h : 0 ≤ j) (h' : j ≤ 1000000) (h2 : i.natAbs < 18446744073709551616) : gPow (.int i) (.int j) = some (.int (i ^ j.toNat)) := by
  show (if cd (0 ≤ j ∧ j ≤ 1000000 ∧ i.natAbs < 18446744073709551616) = true then _ else _) = _
  rw [if_pos (cd_true ⟨h, h', h2⟩)]
theorem ev_mulI (a b : Bool) (i j : Int) (h : cMul i j = true) : fMul (.val a (.int i)) (.val b (.int j)) = some (.val true (.int (i * j))) := by
  have e : fMul (.val a (.int i)) (.val b (.int j)) = kS (gMulS (.int i) (.int j)) := rfl
  have e2 : gMulS (.int i) (.int j) = if cMul i j = true then some (.int (i * j)) else none := rfl
  rw [e, e2, if_pos h]; rfl
theorem cMul1 {i j : Int} (h1 : -(18446744073709551616) < i) (h2 : i < 18446744073709551616) : cMul i j = true := by
  unfold cMul; rw [cd_true ⟨h1, h2⟩]; rfl
theorem cMul2 {i j : Int} (h1 : -(18446744073709551616) < j) (h2 : j < 18446744073709551616) : cMul i j = true := by
  have := cd_true (p := -(18446744073709551616) < j ∧ j < 18446744073709551616) ⟨h1, h2⟩
  unfold cMul; rw [this, Bool.or_true]
theorem ev_neg (a : Bool) (i : Int) : fNeg (.val a (.int i)) = some (.val true (.int (-i))) := rfl
theorem ev_eqI (i j : Int) : gEq (.int i) (.int j) = some (.bool (cd (i = j))) := rfl
theorem ev_neI (i j : Int) : gNe (.int i) (.int j) = some (.bool (!cd (i = j))) := rfl
theorem ev_ltI (i j : Int) : gLt (.int i) (.int j) = some (.bool (cd (i < j))) := rfl
theorem ev_leI (i j : Int) : gLe (.int i) (.int j) = some (.bool (cd (i ≤ j))) := rfl
theorem ev_gtI (i j : Int) : gGt (.int i) (.int j) = some (.bool (cd (j < i))) := rfl
theorem ev_geI (i j : Int) : gGe (.int i) (.int j) = some (.bool (cd (j ≤ i))) := rfl
theorem fD1_1 (g : PyData → Option PyData) (s : Sl) : fD1 g [s] = match dat s with | some d => kS (g d) | none => none := by
  unfold fD1 kS; rfl
def kD1 (g : PyData → Option PyData) (o : Option PyData) : Option Sl := match o with | some d => kS (g d) | none => none
theorem ev_fD1 (g : PyData → Option PyData) (s : Sl) : fD1 g [s] = kD1 g (dat s) := fD1_1 g s
theorem kD1_some (g : PyData → Option PyData) (d : PyData) : kD1 g (some d) = kS (g d) := rfl
theorem ev_int (i : Int) : gInt (.int i) = some (.int i) := rfl
theorem ev_intb (i : Bool) : gInt (.bool i) = some (.int (if i then 1 else 0)) := rfl
theorem ev_abs (i : Int) : gAbs (.int i) = some (.int (if i < 0 then -i else i)) := rfl
theorem ev_lenL (ds : List PyData) : gLen (.list ds) = some (.int ds.length) := rfl
theorem ev_lenT (ds : List PyData) : gLen (.tuple ds) = some (.int ds.length) := rfl
theorem ev_fI2 (h : Int → Int → Int) (a b : Bool) (i j : Int) : fI2 h [.val a (.int i), .val b (.int j)] = some (.val true (.int (h i j))) := rfl
theorem ev_catT (a b : Bool) (d e : List PyData) (hd : d.isEmpty = false) (he : e.isEmpty = false) (h : d.length + e.length ≤ 16777216) : fAdd (.val a (.tuple d)) (.val b (.tuple e)) = some (.val (a && b) (.tuple (d ++ e))) := by
  show (match (if (!d.isEmpty && !e.isEmpty && decide (d.length + e.length ≤ 16777216)) = true then some (a, b, d, e) else none) with | some (f1, f2, d1, d2) => some (Sl.val (f1 && f2) (PyData.tuple (d1 ++ d2))) | none => _) = _
  rw [hd, he, decide_eq_true h]; rfl
theorem ev_catVV (a b : Bool) (d e : List PyData) (h : d.length + e.length ≤ 16777216) : fAdd (.val a (.list d)) (.val b (.list e)) = some (.own ((a || d.all PL.scal) && (b || e.all PL.scal)) (d ++ e)) := by
  show (if _ then _ else _) = _
  rw [if_pos h]
theorem ev_repV (a b : Bool) (d : List PyData) (k : Int) (h : -(9223372036854775808) ≤ k) (h1 : k < 9223372036854775808) (h2 : d.length * k.toNat ≤ 16777216) : fMul (.val a (.list d)) (.val b (.int k)) = some (.own (a || d.all PL.scal) (List.replicate k.toNat d).flatten) := by
  show (if cd _ = true then _ else _) = _
  rw [if_pos (cd_true ⟨h, h1, h2⟩)]
def kLst (r : Option Ra) : Option Rs := PL.bzs r fun ss => match PL.stors ss with
  | some (fr, ds) => if ds.length ≤ 16777216 then some (.ok (.own fr ds)) else none
  | none => none
theorem ev_list (fs : List EF) (ρ : Ev) : eList fs ρ = kLst (evs fs ρ) := rfl
def kMk (o : Option (Bool × List PyData)) : Option Rs := match o with
  | some (fr, ds) => if ds.length ≤ 16777216 then some (.ok (.own fr ds)) else none
  | none => none
theorem kLst_ok (ss : List Sl) : kLst (some (.ok ss)) = kMk (PL.stors ss) := rfl
def kTup (r : Option Ra) : Option Rs := PL.bzs r fun ss => match PL.stors ss with
  | some (fr, ds) => if ds.length ≤ 16777216 then some (.ok (.val fr (.tuple ds))) else none
  | none => none
theorem ev_tup (fs : List EF) (ρ : Ev) : eTup fs ρ = kTup (evs fs ρ) := rfl
def kMkT (o : Option (Bool × List PyData)) : Option Rs := match o with
  | some (fr, ds) => if ds.length ≤ 16777216 then some (.ok (.val fr (.tuple ds))) else none
  | none => none
theorem kTup_ok (ss : List Sl) : kTup (some (.ok ss)) = kMkT (PL.stors ss) := rfl
theorem kMk_some (fr : Bool) (ds : List PyData) (h : ds.length ≤ 16777216) : kMk (some (fr, ds)) = some (.ok (.own fr ds)) := by
  show (if _ then _ else _) = _
  rw [if_pos h]
theorem kMkT_some (fr : Bool) (ds : List PyData) (h : ds.length ≤ 16777216) : kMkT (some (fr, ds)) = some (.ok (.val fr (.tuple ds))) := by
  show (if _ then _ else _) = _
  rw [if_pos h]
def kSt (o : Option (Bool × PyData)) (r : Option (Bool × List PyData)) : Option (Bool × List PyData) := match o with
  | some (f, d) => match r with
    | some (g, ds) => some (f && g, d :: ds)
    | none => none
  | none => none
theorem stors_nil : PL.stors [] = some (true, []) := rfl
theorem stors_cons (s : Sl) (ss : List Sl) : PL.stors (s :: ss) = kSt (stor s) (PL.stors ss) := by
  rw [PL.stors.eq_def]; rfl
theorem kSt_some (f g : Bool) (d : PyData) (ds : List PyData) : kSt (some (f, d)) (some (g, ds)) = some (f && g, d :: ds) := rfl
theorem stor_val (fr : Bool) (d : PyData) : stor (.val fr d) = some (fr || scal d, d) := rfl
theorem ev_ixL (a b : Bool) (ds : List PyData) (i : Int) : fIx (.val a (.list ds)) (.val b (.int i)) = (atI ds i).map (mkv a) := rfl
theorem ev_ixT (a b : Bool) (ds : List PyData) (i : Int) : fIx (.val a (.tuple ds)) (.val b (.int i)) = (atI ds i).map (mkv a) := rfl
theorem ev_ixB (a b : Bool) (ds : List PyData) (i : Int) : fIx (.bor a ds) (.val b (.int i)) = (atI ds i).map (mkv a) := rfl
theorem atI_cast {α : Type} (xs : List α) (n : Nat) : atI xs (n : Int) = xs[n]? := by
  unfold atI ixN
  rw [if_pos (by omega)]
  by_cases h : (n : Int) < xs.length
  · rw [if_pos h, Int.toNat_natCast]; rfl
  · rw [if_neg h, List.getElem?_eq_none (by omega)]; rfl
theorem atI_0 {α : Type} (xs : List α) : atI xs 0 = xs[0]? := atI_cast xs 0
theorem atI_1 {α : Type} (xs : List α) : atI xs 1 = xs[1]? := atI_cast xs 1
theorem atI_2 {α : Type} (xs : List α) : atI xs 2 = xs[2]? := atI_cast xs 2
theorem atI_3 {α : Type} (xs : List α) : atI xs 3 = xs[3]? := atI_cast xs 3
theorem atI_4 {α : Type} (xs : List α) : atI xs 4 = xs[4]? := atI_cast xs 4
theorem atI_5 {α : Type} (xs : List α) : atI xs 5 = xs[5]? := atI_cast xs 5
theorem atI_6 {α : Type} (xs : List α) : atI xs 6 = xs[6]? := atI_cast xs 6
theorem atI_7 {α : Type} (xs : List α) : atI xs 7 = xs[7]? := atI_cast xs 7
def kSl (a : Option Rs) (lo hi : Option Rp) : Option Rs := PL.bz a fun x => PL.bp lo fun l => PL.bp hi fun h => slF x l h
theorem kSl_valT (fr : Bool) (ds : List PyData) (l h : Option Int) : kSl (some (.ok (.val fr (.tuple ds)))) (some (.ok l)) (some (.ok h)) = some (.ok (.val fr (.tuple (cutD ds l h)))) := rfl
theorem kSl_brfT (ds : List PyData) (l h : Option Int) (h1 : (cutD ds l h).all PL.scal = true) (h2 : (cutD ds l h).length < ds.length) : kSl (some (.ok (.brf (.tuple ds)))) (some (.ok l)) (some (.ok h)) = some (.ok (.val true (.tuple (cutD ds l h)))) := by
  show (if ((cutD ds l h).all PL.scal && decide ((cutD ds l h).length < ds.length)) = true then _ else _) = _
  rw [h1, decide_eq_true h2]; rfl
theorem ev_slice (f : EF) (lo hi : PF) (ρ : Ev) : eSl f lo hi ρ = kSl (f ρ) (lo ρ) (hi ρ) := rfl
theorem kSl_val (fr : Bool) (ds : List PyData) (l h : Option Int) : kSl (some (.ok (.val fr (.list ds)))) (some (.ok l)) (some (.ok h)) = some (.ok (.own (fr || ds.all PL.scal) (cutD ds l h))) := rfl
theorem kSl_own (fr : Bool) (ds : List PyData) (l h : Option Int) : kSl (some (.ok (.own fr ds))) (some (.ok l)) (some (.ok h)) = some (.ok (.own (fr || ds.all PL.scal) (cutD ds l h))) := rfl
theorem kSl_bor (fr : Bool) (ds : List PyData) (l h : Option Int) : kSl (some (.ok (.bor fr ds))) (some (.ok l)) (some (.ok h)) = some (.ok (.own (fr || ds.all PL.scal) (cutD ds l h))) := rfl
theorem kSl_full (ds : List PyData) (l h : Option Int) : kSl (some (.ok (.full (.list ds)))) (some (.ok l)) (some (.ok h)) = some (.ok (.own true (cutD ds l h))) := rfl
theorem ev_pN (ρ : Ev) : pN ρ = some (.ok none) := rfl
def kP (o : Option Rs) : Option Rp := match o with
  | some (.ok s) => match dat (frz s) with
    | some (.int i) => some (.ok (some i))
    | _ => none
  | some (.ex n) => some (.ex n)
  | none => none
theorem ev_pS (f : EF) (ρ : Ev) : pS f ρ = kP (f ρ) := by unfold pS kP; rfl
theorem kP_int (fr : Bool) (i : Int) : kP (some (.ok (.val fr (.int i)))) = some (.ok (some i)) := rfl
theorem ev_rev (fr : Bool) (ds : List PyData) : fRev (.val fr (.list ds)) = some (.own (fr || ds.all PL.scal) ds.reverse) := rfl
theorem ev_ls (fr : Bool) (ds : List PyData) : fLs [.val fr (.list ds)] = some (.own (fr || ds.all PL.scal) ds) := rfl
theorem ev_lsT (fr : Bool) (ds : List PyData) : fLs [.val fr (.tuple ds)] = some (.own fr ds) := rfl
theorem ev_tl (fr : Bool) (ds : List PyData) : fTl [.val fr (.list ds)] = some (.val (fr || ds.all PL.scal) (.tuple ds)) := rfl
theorem all_scal (xs : List Int) : (xs.map PyData.int).all PL.scal = true := by
  rw [List.all_map, List.all_eq_true]; intro x _; rfl
def kSo (fr : Bool) (o : Option (List PyData)) : Option Sl := o.map fun ds' => .own fr ds'
theorem ev_sorted (fr : Bool) (ds : List PyData) : fSorted [.val fr (.list ds)] = kSo (fr || ds.all PL.scal) (gSorted ds) := rfl
theorem kSo_some (fr : Bool) (ds : List PyData) : kSo fr (some ds) = some (.own fr ds) := rfl
def kIL (o : Option Rs) : Option Ri := match o with
  | some (.ok s) => match frz s with
    | .val fr (.list ds) => some (.ok (ds.map (mkv fr)))
    | _ => none
  | some (.ex n) => some (.ex n)
  | none => none
theorem ev_iL (f : EF) (ρ : Ev) : iL f ρ = kIL (f ρ) := by unfold iL kIL; rfl
theorem kIL_val (fr : Bool) (ds : List PyData) : kIL (some (.ok (.val fr (.list ds)))) = some (.ok (ds.map (mkv fr))) := rfl
theorem kIL_own (fr : Bool) (ds : List PyData) : kIL (some (.ok (.own fr ds))) = some (.ok (ds.map (mkv fr))) := rfl
theorem kIL_full (ds : List PyData) : kIL (some (.ok (.full (.list ds)))) = some (.ok (ds.map (mkv true))) := rfl
noncomputable def kR (r : Option Ra) : Option Ri := match r with
  | some (.ok ss) => match ss.map dat with
    | [some (.int j)] => if small62 j = true then some (.ok (rngI 0 j)) else none
    | [some (.int i), some (.int j)] => if small62 i = true ∧ small62 j = true then some (.ok (rngI i j)) else none
    | _ => none
  | some (.ex n) => some (.ex n)
  | none => none
theorem ev_iR (fs : List EF) (ρ : Ev) : iR fs ρ = kR (evs fs ρ) := by unfold iR kR; rfl
theorem kR_1 (a : Bool) (j : Int) (h : small62 j = true) : kR (some (.ok [.val a (.int j)])) = some (.ok (rngI 0 j)) := by
  show (if _ then _ else _) = _
  rw [if_pos h]
theorem kR_2 (a b : Bool) (i j : Int) (h : small62 i = true) (h' : small62 j = true) : kR (some (.ok [.val a (.int i), .val b (.int j)])) = some (.ok (rngI i j)) := by
  show (if _ then _ else _) = _
  rw [if_pos ⟨h, h'⟩]
theorem small62_ok {i : Int} (h : -4611686018427387904 ≤ i) (h' : i < 4611686018427387904) : small62 i = true := cd_true ⟨h, h'⟩
def mkI (i : Int) : Sl := .val true (.int i)
theorem map_mkv_int (fr : Bool) (l : List Int) : (l.map PyData.int).map (mkv fr) = l.map mkI := by
  rw [List.map_map]; exact List.map_congr_left fun a _ => mkv_int fr a
theorem mkI_eq (i : Int) : mkI i = .val true (.int i) := rfl
def mkN (lo : Int) (i : Nat) : Sl := .val true (.int (lo + (i : Int)))
theorem rngI_eq (lo hi : Int) : rngI lo hi = (List.range (hi - lo).toNat).map (mkN lo) := rfl
theorem mkN_eq (lo : Int) (i : Nat) : mkN lo i = .val true (.int (lo + (i : Int))) := rfl
noncomputable def kR3 (r : Option Ra) : Option Ri := match r with
  | some (.ok ss) => match ss.map dat with
    | [some (.int i), some (.int j), some (.int c)] => if cd (c ≠ 0 ∧ c.natAbs < 1073741824 ∧ Builtin.Range.small i j c = true) = true then some (.ok (rngC i c (rN i j c))) else none
    | _ => none
  | some (.ex n) => some (.ex n)
  | none => none
theorem ev_iR3 (fs : List EF) (ρ : Ev) : iR3 fs ρ = kR3 (evs fs ρ) := by unfold iR3 kR3; rfl
theorem kR3_ok (a b b' : Bool) (i j c : Int) (h : c ≠ 0 ∧ c.natAbs < 1073741824 ∧ Builtin.Range.small i j c = true) : kR3 (some (.ok [.val a (.int i), .val b (.int j), .val b' (.int c)])) = some (.ok (rngC i c (rN i j c))) := by
  show (if _ then _ else _) = _
  rw [if_pos (cd_true h)]
def mkC (lo c : Int) (i : Nat) : Sl := .val true (.int (lo + (i : Int) * c))
theorem rngC_eq (lo c : Int) (n : Nat) : rngC lo c n = (List.range n).map (mkC lo c) := rfl
theorem mkC_eq (lo c : Int) (i : Nat) : mkC lo c i = .val true (.int (lo + (i : Int) * c)) := rfl
def kM (mk : Sl → Option (List Sl)) (o : Option Rs) : Option Ri := match o with
  | some (.ok s) => match mk (frz s) with
    | some its => some (.ok its)
    | none => none
  | some (.ex n) => some (.ex n)
  | none => none
theorem ev_iM (mk : Sl → Option (List Sl)) (f : EF) (ρ : Ev) : iM mk f ρ = kM mk (f ρ) := by unfold iM kM; rfl
def kM2 (o : Option (List Sl)) : Option Ri := match o with | some its => some (.ok its) | none => none
theorem kM_ok (mk : Sl → Option (List Sl)) (s : Sl) : kM mk (some (.ok s)) = kM2 (mk (frz s)) := by unfold kM kM2; rfl
theorem kM2_some (its : List Sl) : kM2 (some its) = some (.ok its) := rfl
theorem mkEn_val (fr : Bool) (ds : List PyData) : mkEn (.val fr (.list ds)) = some (enI fr 0 ds) := rfl
theorem mkTp_val (fr : Bool) (ds : List PyData) : mkTp (.val fr (.tuple ds)) = some (ds.map (mkv fr)) := rfl
def kZp (o : Option Rs) (g : EF) (ρ : Ev) : Option Ri := match o with
  | some (.ok s) => iM (mkZp (frz s)) g ρ
  | some (.ex n) => some (.ex n)
  | none => none
theorem ev_iZp (f g : EF) (ρ : Ev) : iZp f g ρ = kZp (f ρ) g ρ := by unfold iZp kZp; rfl
theorem kZp_ok (s : Sl) (g : EF) (ρ : Ev) : kZp (some (.ok s)) g ρ = iM (mkZp (frz s)) g ρ := rfl
theorem mkZp_val (a b : Bool) (ds es : List PyData) : mkZp (.val a (.list ds)) (.val b (.list es)) = some (zpI (a && b) ds es) := rfl
def kLc (o : Option Ri) (own : List Nat) (t : GF) (tt : BF) (elt : EF) (ρ : Ev) : Option Rs := match o with
  | some (.ok its) => match lcL t tt elt (wipeE ρ own) its with
    | some (fr, ds) => if ds.length ≤ 16777216 then some (.ok (.own fr ds)) else none
    | none => none
  | some (.ex n) => some (.ex n)
  | none => none
theorem ev_lc (g : IF) (own : List Nat) (t : GF) (tt : BF) (elt : EF) (ρ : Ev) : eLc g own t tt elt ρ = kLc (g ρ) own t tt elt ρ := by unfold eLc kLc; rfl
def kLcM (o : Option (Bool × List PyData)) : Option Rs := match o with
  | some (fr, ds) => if ds.length ≤ 16777216 then some (.ok (.own fr ds)) else none
  | none => none
theorem kLc_ok (its : List Sl) (own : List Nat) (t : GF) (tt : BF) (elt : EF) (ρ : Ev) : kLc (some (.ok its)) own t tt elt ρ = kLcM (lcL t tt elt (wipeE ρ own) its) := rfl
theorem kLcM_some (fr : Bool) (ds : List PyData) (h : ds.length ≤ 16777216) : kLcM (some (fr, ds)) = some (.ok (.own fr ds)) := by
  show (if _ then _ else _) = _
  rw [if_pos h]
theorem wipeE_nil (ρ : Ev) : wipeE ρ [] = ρ := rfl
theorem wipeE_cons (ρ : Ev) (i : Nat) (r : List Nat) : wipeE ρ (i :: r) = (wipeE ρ r).set i .und := rfl
theorem ev_byes (ρ : Ev) : bYes ρ = some (.ok true) := rfl
def kE (o : Option Rs) : Option (Bool × PyData) := match o with | some (.ok x) => stor (frz x) | _ => none
theorem kE_val (fr : Bool) (d : PyData) : kE (some (.ok (.val fr d))) = some (fr || scal d, d) := rfl
theorem kE_own (fr : Bool) (d : List PyData) : kE (some (.ok (.own fr d))) = some (fr, .list d) := by cases fr <;> rfl
theorem kE_full (d : PyData) : kE (some (.ok (.full d))) = some (true, d) := rfl
def kEl (o : Option Ev) (elt : EF) : Option (Bool × PyData) := match o with | some ρ1 => kE (elt ρ1) | none => none
theorem kEl_some (ρ : Ev) (elt : EF) : kEl (some ρ) elt = kE (elt ρ) := rfl
def kTl (o : Option Ev) (tt : BF) : Option Rb := match o with | some ρ1 => tt ρ1 | none => none
theorem kTl_some (ρ : Ev) (tt : BF) : kTl (some ρ) tt = tt ρ := rfl
theorem kEl_ok {o : Option Ev} {elt : EF} {f : Bool} {d : PyData} (h : kEl o elt = some (f, d)) : ∃ ρ1 x, o = some ρ1 ∧ elt ρ1 = some (.ok x) ∧ stor (frz x) = some (f, d) := by
  cases o with
  | none => cases h
  | some ρ1 =>
    have h' : kE (elt ρ1) = some (f, d) := h
    cases he : elt ρ1 with
    | none => rw [he] at h'; cases h'
    | some o =>
      rw [he] at h'
      cases o with
      | ex n => cases h'
      | ok x => exact ⟨ρ1, x, rfl, he, h'⟩
/-- one item -/
theorem lcL_cons {t : GF} {tt : BF} {elt : EF} {ρ : Ev} {s : Sl} {ss : List Sl} {g : Bool} {ds : List PyData} {d : PyData} (h1 : kTl (t s ρ) tt = some (.ok true)) (h2 : kEl (t s ρ) elt = some (true, d)) (h3 : lcL t tt elt ρ ss = some (g, ds)) : lcL t tt elt ρ (s :: ss) = some (g, d :: ds) := by
  obtain ⟨ρ1, x, e1, e2, e3⟩ := kEl_ok h2
  have h1' : tt ρ1 = some (.ok true) := by rw [e1] at h1; exact h1
  rw [lcL, e1]
  dsimp only
  rw [h1']
  dsimp only
  rw [e2]
  dsimp only
  rw [e3, h3]
  rfl
theorem lcL_skip {t : GF} {tt : BF} {elt : EF} {ρ : Ev} {s : Sl} {ss : List Sl} (h1 : kTl (t s ρ) tt = some (.ok false)) : lcL t tt elt ρ (s :: ss) = lcL t tt elt ρ ss := by
  rw [lcL]
  cases e : t s ρ with
  | none => rw [e] at h1; cases h1
  | some ρ1 =>
    rw [e] at h1
    dsimp only
    rw [show tt ρ1 = some (.ok false) from h1]
theorem bYes_el {o : Option Ev} {elt : EF} {f : Bool} {d : PyData} (h : kEl o elt = some (f, d)) : kTl o bYes = some (.ok true) := by
  obtain ⟨ρ1, x, e1, e2, e3⟩ := kEl_ok h
  rw [e1]; rfl
/-- no test -/
theorem lcL_map {α : Type} {t : GF} {elt : EF} {ρ : Ev} {mk : α → Sl} {r : α → PyData} : ∀ (l : List α), (∀ a ∈ l, kEl (t (mk a) ρ) elt = some (true, r a)) → lcL t bYes elt ρ (l.map mk) = some (true, l.map r)
  | [], _ => rfl
  | a :: l, h => lcL_cons (bYes_el (h a List.mem_cons_self)) (h a List.mem_cons_self) (lcL_map l fun b hb => h b (List.mem_cons_of_mem _ hb))
/-- with a test -/
theorem lcL_filter {α : Type} {t : GF} {tt : BF} {elt : EF} {ρ : Ev} {mk : α → Sl} {p : α → Bool} {r : α → PyData} : ∀ (l : List α), (∀ a ∈ l, kTl (t (mk a) ρ) tt = some (.ok (p a)) ∧ (p a = true → kEl (t (mk a) ρ) elt = some (true, r a))) → lcL t tt elt ρ (l.map mk) = some (true, (l.filter p).map r)
  | [], _ => rfl
  | a :: l, h => by
    obtain ⟨h1, h2⟩ := h a List.mem_cons_self
    have ih := lcL_filter (t := t) (tt := tt) (elt := elt) (ρ := ρ) (mk := mk) (p := p) (r := r) l fun b hb => h b (List.mem_cons_of_mem _ hb)
    rw [List.map_cons, List.filter_cons]
    cases hp : p a with
    | false => rw [hp] at h1; rw [lcL_skip h1]; exact ih
    | true => rw [hp] at h1; rw [if_pos rfl]; exact lcL_cons h1 (h2 hp) ih
theorem lcL_ints {α : Type} {t : GF} {elt : EF} {ρ : Ev} {mk : α → Sl} {Q : Int → Prop} : ∀ (l : List α), (∀ a ∈ l, ∃ i, kEl (t (mk a) ρ) elt = some (true, .int i) ∧ Q i) → ∃ is : List Int, lcL t bYes elt ρ (l.map mk) = some (true, is.map .int) ∧ is.length = l.length ∧ ∀ i ∈ is, Q i
  | [], _ => ⟨[], rfl, rfl, fun _ h => by cases h⟩
  | a :: l, h => by
    obtain ⟨i, h1, h3⟩ := h a List.mem_cons_self
    obtain ⟨is, e1, e2, e3⟩ := lcL_ints (t := t) (elt := elt) (ρ := ρ) (mk := mk) (Q := Q) l fun b hb => h b (List.mem_cons_of_mem _ hb)
    refine ⟨i :: is, lcL_cons (bYes_el h1) h1 e1, by rw [List.length_cons, List.length_cons, e2], fun j hj => ?_⟩
    rcases List.mem_cons.mp hj with e | e
    · rw [e]; exact h3
    · exact e3 j e
end PL
namespace PL
open PySem PySem.Spec PyProof.Rows L2
mutual
/-- small ints, plain texts -/
def okR : PyData → Bool
  | .none => true
  | .bool _ => true
  | .int i => decide (i.natAbs < 1000000000000)
  | .str x => x.cps.toList.all fun c => decide (c < 16 ^ 8)
  | .list xs => okRs xs
  | .tuple xs => okRs xs
  | .dict _ => false
def okRs : List PyData → Bool
  | [] => true
  | x :: xs => okR x && okRs xs
end
mutual
/-- how many -/
def nn : PyData → Nat
  | .none => 1
  | .bool _ => 1
  | .int _ => 41
  | .str x => x.cps.size + 1
  | .list xs => nns xs + 1
  | .tuple xs => nns xs + 1
  | .dict _ => 1
def nns : List PyData → Nat
  | [] => 0
  | x :: xs => nn x + 1 + nns xs
end
mutual
theorem okR_leaves : ∀ d : PyData, okR d = true → d.leavesShort 13 = true
  | .none, _ => rfl
  | .bool _, _ => rfl
  | .int i, h => by
    simp only [okR, decide_eq_true_eq] at h
    simp only [PyData.leavesShort, decide_eq_true_eq]
    exact PyData.shown_int_le (by
      have : (10 : Nat) ^ 12 = 1000000000000 := by decide
      rw [this]; exact h)
  | .str x, h => by simp only [okR] at h; simp only [PyData.leavesShort]; exact h
  | .list xs, h => by simp only [okR] at h; simp only [PyData.leavesShort]; exact okRs_leaves xs h
  | .tuple xs, h => by simp only [okR] at h; simp only [PyData.leavesShort]; exact okRs_leaves xs h
  | .dict _, h => by simp only [okR] at h; cases h
theorem okRs_leaves : ∀ ds : List PyData, okRs ds = true → PyData.leavesShortAll 13 ds = true
  | [], _ => by simp only [PyData.leavesShortAll]
  | d :: ds, h => by
    simp only [okRs, Bool.and_eq_true] at h
    simp only [PyData.leavesShortAll, Bool.and_eq_true]
    exact ⟨okR_leaves d h.1, okRs_leaves ds h.2⟩
end
theorem log40 {n : Nat} (h : n < 1000000000000) : n.log2 < 40 := by
  rcases Nat.eq_zero_or_pos n with e | e
  · rw [e]; decide
  · exact (Nat.log2_lt (by omega)).mpr (Nat.lt_trans h (by decide))
mutual
theorem okR_show : ∀ d : PyData, okR d = true → d.showable = true
  | .none, _ => rfl
  | .bool _, _ => rfl
  | .int i, h => by
    simp only [okR, decide_eq_true_eq] at h
    simp only [PyData.showable, decide_eq_true_eq]
    have := log40 h
    omega
  | .str _, _ => rfl
  | .list xs, h => by simp only [okR] at h; simp only [PyData.showable]; exact okRs_show xs h
  | .tuple xs, h => by simp only [okR] at h; simp only [PyData.showable]; exact okRs_show xs h
  | .dict _, h => by simp only [okR] at h; cases h
theorem okRs_show : ∀ ds : List PyData, okRs ds = true → PyData.showableAll ds = true
  | [], _ => by simp only [PyData.showableAll]
  | d :: ds, h => by
    simp only [okRs, Bool.and_eq_true] at h
    simp only [PyData.showableAll, Bool.and_eq_true]
    exact ⟨okR_show d h.1, okRs_show ds h.2⟩
end
mutual
theorem okR_weight : ∀ d : PyData, okR d = true → d.weight ≤ nn d
  | .none, _ => by simp only [PyData.weight, nn]; omega
  | .bool _, _ => by simp only [PyData.weight, nn]; omega
  | .int i, h => by
    simp only [okR, decide_eq_true_eq] at h
    simp only [PyData.weight, nn]
    have := log40 h
    split <;> omega
  | .str x, _ => by simp only [PyData.weight, nn]; omega
  | .list xs, h => by simp only [okR] at h; simp only [PyData.weight, nn]; have := okRs_weight xs h; omega
  | .tuple xs, h => by simp only [okR] at h; simp only [PyData.weight, nn]; have := okRs_weight xs h; omega
  | .dict _, h => by simp only [okR] at h; cases h
theorem okRs_weight : ∀ ds : List PyData, okRs ds = true → PyData.weightAll ds ≤ nns ds
  | [], _ => by simp only [PyData.weightAll, nns]; omega
  | d :: ds, h => by
    simp only [okRs, Bool.and_eq_true] at h
    simp only [PyData.weightAll, nns]
    have h1 := okR_weight d h.1
    have h2 := okRs_weight ds h.2
    omega
end
theorem gRepr_ok {d : PyData} (h : okR d = true) (hn : nn d ≤ 1048576) (hd : d.depth ≤ 60) : gRepr d = some (.str d.shown) := by
  unfold gRepr
  have h1 := PyData.shown_fits (B := 13) (by decide) (by decide) (okR_leaves d h) (by have := okR_weight d h; omega)
  rw [sizeLine_eq] at h1
  rw [if_pos ⟨okR_show d h, hd, h1⟩]
theorem okRs_ints {xs : List Int} (h : ∀ x ∈ xs, x.natAbs < 1000000000000) : okRs (xs.map .int) = true := by
  induction xs with
  | nil => rfl
  | cons x xs ih =>
    rw [List.map_cons, okRs, okR, Bool.and_eq_true]
    exact ⟨decide_eq_true (h x List.mem_cons_self), ih fun y hy => h y (List.mem_cons_of_mem _ hy)⟩
theorem nns_ints (xs : List Int) : nns (xs.map .int) = 42 * xs.length := by
  induction xs with
  | nil => rfl
  | cons x xs ih => rw [List.map_cons, nns, nn, ih, List.length_cons]; omega
theorem depths_ints (xs : List Int) : PyData.depthAll (xs.map .int) = 0 := PySem.W.depth_ints xs
theorem eqv_self {d : PyData} (h : d.plain = true) : PyData.eqv d d = true := PySem.SeqAt.eqv_refl_plain d h
def isI : PyData → Bool
  | .int _ => true
  | _ => false
theorem gNe_n {d e : PyData} (h : isI d = false) : gNe d e = if d.depth ≤ 60 then some (.bool (!PyData.eqv d e)) else none := by
  cases d <;> first | rfl | cases h
theorem gEq_n {d e : PyData} (h : isI d = false) : gEq d e = if d.depth ≤ 60 then some (.bool (PyData.eqv d e)) else none := by
  cases d <;> first | rfl | cases h
theorem gNe_self {d : PyData} (h : d.plain = true) (hd : d.depth ≤ 60) : gNe d d = some (.bool false) := by
  cases hi : isI d with
  | false => rw [gNe_n hi, if_pos hd, eqv_self h]; rfl
  | true =>
    cases d <;> first | cases hi | skip
    show some (PyData.bool (!cd _)) = _
    rw [cd_true rfl]; rfl
theorem gEq_self {d : PyData} (h : d.plain = true) (hd : d.depth ≤ 60) : gEq d d = some (.bool true) := by
  cases hi : isI d with
  | false => rw [gEq_n hi, if_pos hd, eqv_self h]
  | true =>
    cases d <;> first | cases hi | skip
    show some (PyData.bool (cd _)) = _
    rw [cd_true rfl]
theorem plain_ints (xs : List Int) : PyData.plainAll (xs.map .int) = true := by
  induction xs with
  | nil => simp only [List.map_nil, PyData.plainAll]
  | cons x xs ih => rw [List.map_cons]; simp only [PyData.plainAll, ih, PyData.plain, Bool.and_self]
theorem gNe_str (x : Str) : gNe (.str x) (.str x) = some (.bool false) := gNe_self rfl (by simp only [PyData.depth]; omega)
theorem gEq_str (x : Str) : gEq (.str x) (.str x) = some (.bool true) := gEq_self rfl (by simp only [PyData.depth]; omega)
end PL
namespace PL
open PySem PySem.Spec PyProof.Rows L2
section
variable {X : Cx} {H0 : En} {W : WX} {e a b c : Expr} {es : List Expr} {f g : EF} {pos apos cpos jp sp : Pos} {K : PySem.W.Frag} {B H B' H' : Hp} {σ : L2.St} {mg : Str → Option Value} {ρ : Ev} {kk : Nat}
def seqF : PyData → Option (List PyData)
  | .list ds => some ds
  | .tuple ds => some ds
  | _ => none
/-- x[j].append(e), x an owned datum: forgotten then -/
def sAppAt (i : Nat) (j : Int) (f : EF) : SF := fun ρ => match ρ[i]? with
  | some (.full d) => match seqF d with
    | some ds => match atI ds j with
      | some (.list es) => bSz (f ρ) ρ fun s => if es.length < 16777216 then some (.nx (ρ.set i .und)) else none
      | _ => none
    | none => none
  | _ => none
end
def kAA (i : Nat) (ρ : Ev) (o : Option PyData) (r : Option Rs) : Option Out := match o with
  | some (.list es) => bSz r ρ fun s => if es.length < 16777216 then some (.nx (ρ.set i .und)) else none
  | _ => none
def kAppAt (i : Nat) (j : Int) (ρ : Ev) (o : Option Sl) (r : Option Rs) : Option Out := match o with
  | some (.full d) => match seqF d with
    | some ds => kAA i ρ (atI ds j) r
    | none => none
  | _ => none
theorem ev_appAt (i : Nat) (j : Int) (f : EF) (ρ : Ev) : sAppAt i j f ρ = kAppAt i j ρ ρ[i]? (f ρ) := by
  unfold sAppAt kAppAt kAA
  rfl
theorem kAppAt_tuple (i : Nat) (j : Int) (ρ : Ev) (ds : List PyData) (r : Option Rs) : kAppAt i j ρ (some (.full (.tuple ds))) r = kAA i ρ (atI ds j) r := rfl
theorem kAppAt_list (i : Nat) (j : Int) (ρ : Ev) (ds : List PyData) (r : Option Rs) : kAppAt i j ρ (some (.full (.list ds))) r = kAA i ρ (atI ds j) r := rfl
theorem kAA_ok (i : Nat) (ρ : Ev) (es : List PyData) (s : Sl) (h : es.length < 16777216) : kAA i ρ (some (.list es)) (some (.ok s)) = some (.nx (ρ.set i .und)) := by
  show (if es.length < 16777216 then _ else _) = _
  rw [if_pos h]
theorem ev_andI (i j : Int) : gAnd (.int i) (.int j) = some (.int (Builtin.bitAnd i j)) := rfl
theorem ev_orI (i j : Int) : gOr (.int i) (.int j) = some (.int (Builtin.bitOr i j)) := rfl
theorem ev_shr (i j : Int) (h : 0 ≤ j) : gShr (.int i) (.int j) = some (.int (i / 2 ^ j.toNat)) := by
  show (if cd (0 ≤ j) = true then _ else _) = _
  rw [if_pos (cd_true h)]
theorem ev_shl (i j : Int) (h : 0 ≤ j) (h' : j ≤ 1000000) (h2 : i.natAbs < 18446744073709551616) : gShl (.int i) (.int j) = some (.int (i * 2 ^ j.toNat)) := by
  show (if cd (0 ≤ j ∧ j ≤ 1000000 ∧ i.natAbs < 18446744073709551616) = true then _ else _) = _
  rw [if_pos (cd_true ⟨h, h', h2⟩)]
end PL
namespace PL
open PySem PySem.Spec PyProof.Rows L2
def bmV : List Value := [.type "ValueError", .type "Exception", .type "BaseException", .type "object"]
/-- what the top has written of an own class of exceptions -/
structure ClsF (K : PySem.W.Frag) (mg : Str → Option Value) (x : Str) : Prop where
  ex : ∃ C, mg x = some (.ref C) ∧ PySem.W.excIn K C bmV "ValueError.__new__" = true ∧ PySem.W.keepIn K (.ref C) = true ∧ PySem.W.subIn K (.ref C) (.type "BaseException") = some true ∧ PySem.W.typeIn K (.ref C) = some (.type "type")
section
variable {X : Cx} {H0 : En} {W : WX} {e a b c : Expr} {es : List Expr} {f g : EF} {pos pos' np p p2 cpos : Pos} {K : PySem.W.Frag} {B H B' H' : Hp} {σ : L2.St} {mg : Str → Option Value} {ρ : Ev} {x n m : Str} {j : Nat}
def sRaise (x : Str) : SF := fun ρ => some (.ex x ρ)
theorem psdRaise (hc : X.calm = true) (tk : Takes X W) (F : ClsF X.K X.mg x) (hg : Gl X x := by rfl) (hdb : (x == ("__debug__" : Str)) = false := by decide) : PSD X H0 W (.Raise (some (.Call (.Name x p) [.Constant (.str m) j p2] [] cpos)) none pos) (sRaise x) := by
  obtain ⟨C, h1, h2, h3, h4, h5⟩ := F.ex
  exact ⟨psWeak (ps_raise hc tk (pmk_own PySem.F.excBase_ValueError h2 h1 h3 (raises_own h4 h5) hg hdb)) fun D σ H ⟨B, ρ, o, E, h, ho⟩ => by
    cases h
    exact ho (.ref C) σ B H h1 E (Same.refl _)⟩
def noEx : Ev → Bool
  | [] => true
  | .exn _ :: _ => false
  | _ :: ρ => noEx ρ
theorem noEx_at : ∀ {ρ : Ev} {i : Nat} {n : Str}, noEx ρ = true → ρ[i]? = some (.exn n) → False
  | [], _, _, _, h => by simp at h
  | s :: ρ, 0, n, h, hs => by
    have : s = .exn n := by simpa using hs
    subst this; cases h
  | s :: ρ, i + 1, n, h, hs => by
    refine noEx_at (ρ := ρ) (i := i) (n := n) ?_ (by simpa using hs)
    cases s <;> first | exact h | cases h
abbrev En.at (H0 : En) (a : Addr) (ec : Str → Prop) : En := ⟨H0.H, H0.B, a, ec⟩
theorem SR.at {N : Hp} {o : Option (Option V)} {s : Sl} {a : Addr} {ec : Str → Prop} (hs : ∀ n, s ≠ .exn n) (h : SR K H0 B N o s) : SR K (H0.at a ec) B N o s := by
  cases s with
  | und => trivial
  | val fr d => exact h
  | own fr ds => exact h
  | full d => exact h
  | bor fr ds => exact h
  | brf d => exact h
  | exn n => exact absurd rfl (hs n)
  | cel k => exact h
theorem ER.at (E : ER K H0 B H σ ρ) (h : noEx ρ = true) (a : Addr) (ec : Str → Prop) : ER K (H0.at a ec) B H σ ρ := by
  obtain ⟨F, f1, f2, f3, f4⟩ := E.ex
  exact ⟨E.e0, E.b0, E.n0, E.eB, E.len, F, f1, f2, f3, fun i s hs => (f4 i s hs).at fun n e => by subst e; exact noEx_at h hs⟩
theorem ER.off {a : Addr} {ec : Str → Prop} (E : ER K (H0.at a ec) B H σ ρ) (h : noEx ρ = true) : ER K H0 B H σ ρ := by
  have := ER.at E h H0.ea H0.ec
  exact this
def allU (ρ : Ev) : Ev := ρ.map fun _ => .und
theorem ER.offU {a : Addr} {ec : Str → Prop} (E : ER K (H0.at a ec) B H σ ρ) : ER K H0 B H σ (allU ρ) := by
  obtain ⟨F, f1, f2, f3, f4⟩ := E.ex
  refine ⟨E.e0, E.b0, E.n0, E.eB, by unfold allU; rw [List.length_map]; exact E.len, F, f1, f2, f3, fun i s hs => ?_⟩
  unfold allU at hs
  rw [List.getElem?_map] at hs
  cases q : ρ[i]? with
  | none => rw [q] at hs; cases hs
  | some u => rw [q] at hs; cases hs; trivial
/-- what the clause of class x does with each class: it takes it or not -/
abbrev Tab := List (Str × Bool)
def hOut (i : Nat) : Option Out → Option Out
  | some (.nx ρ) => if noEx (ρ.set i .und) = true then some (.nx (ρ.set i .und)) else none
  | some (.bk ρ) => if noEx (ρ.set i .und) = true then some (.bk (ρ.set i .und)) else none
  | some (.ct ρ) => if noEx (ρ.set i .und) = true then some (.ct (ρ.set i .und)) else none
  | some (.rt s) => some (.rt s)
  | _ => none
def sTryAs (body : SF) (tab : Tab) (i : Nat) (h : SF) : SF := fun ρ => match body ρ with
  | some (.ex n ρ1) => if noEx ρ1 = true then match tab.lookup n with
    | some true => hOut i (h (ρ1.set i (.exn n)))
    | some false => some (.ex n ρ1)
    | none => none
    else none
  | r => r
/-- the table tells what the model tells -/
def TabOk (K : PySem.W.Frag) (mg : Str → Option Value) (c : Value) (tab : Tab) : Prop := ∀ n b, tab.lookup n = some b → ∀ cls, mg n = some cls → PySem.W.exmOne K cls c = some b
def tH (K : PySem.W.Frag) (mg : Str → Option Value) (H0 : En) (h : SF) : Addr → Value → Option Addr → TS := fun a cls d D σ H => ∃ n B ρ o, mg n = some cls ∧ d = none ∧ ER K (H0.at a fun n => mg n = some cls) B H σ ρ ∧ h ρ = some o ∧ OUT K mg (H0.at a fun n => mg n = some cls) W0 B o D
/-- except x: suite -/
def hOut0 : Option Out → Option Out
  | some (.nx ρ) => if noEx ρ = true then some (.nx ρ) else none
  | some (.bk ρ) => if noEx ρ = true then some (.bk ρ) else none
  | some (.ct ρ) => if noEx ρ = true then some (.ct ρ) else none
  | some (.rt s) => some (.rt s)
  | _ => none
def sTry (body : SF) (tab : Tab) (h : SF) : SF := fun ρ => match body ρ with
  | some (.ex n ρ1) => if noEx ρ1 = true then match tab.lookup n with
    | some true => hOut0 (h ρ1)
    | some false => some (.ex n ρ1)
    | none => none
    else none
  | r => r
def eIsE (i : Nat) (tab : Tab) : EF := fun ρ => match ρ[i]? with
  | some (.exn n) => match tab.lookup n with
    | some b => some (.ok (.val true (.bool b)))
    | none => none
  | _ => none
/-- the table tells what isinstance tells, class by class -/
def IsOk (K : PySem.W.Frag) (mg : Str → Option Value) (cv : Value) (tab : Tab) : Prop := ∀ n b, tab.lookup n = some b → ∃ D, mg n = some (.ref D) ∧ ExcC K D ∧ PySem.W.kitOne K (.ref D) cv = some b
end
end PL
namespace PL
open PySem PySem.Spec PyProof.Rows L2
def pickL {α : Type} (xs : List α) (k : Int) : List α := (sliceRange 0 xs.length k).filterMap fun i => xs[i]?
section
variable {X : Cx} {H0 : En} {W : WX} {e a b c st : Expr} {es : List Expr} {f g : EF} {pos p p3 : Pos} {x : Str}
noncomputable def fStep (x y : Sl) : Option Sl := match lstD x with
  | some (fr, ds) => match dat y with
    | some (.int k) => if cd (0 < k) = true then some (.own fr (pickL ds k)) else none
    | _ => none
  | none => none
theorem pdGlo {v : V} {d : PyData} {u : Value} (hm : X.mg x = some u) (r : RelV v u) (hd : ∀ L, Rep L v d) (hg : Gl X x := by rfl) (hdb : (x == ("__debug__" : Str)) = false := by decide) : PD X H0 W (.Name x p) (eC d) := pdC (pe_glob hg hm r hdb) hd
theorem pdGloI {i : Int} (hm : ∃ t, X.mg x = some (.int i t)) (hg : Gl X x := by rfl) (hdb : (x == ("__debug__" : Str)) = false := by decide) : PD X H0 W (.Name x p) (eC (.int i)) := by
  obtain ⟨t, hm⟩ := hm
  exact pdGlo (v := .int i) hm ⟨t, rfl⟩ (fun _ => .int i) hg hdb
variable {K : PySem.W.Frag} {mg : Str → Option Value} {cv cls : Value} {n : Str} {bb : Bool} {tab : Tab} {D : Addr}
theorem TabOk.nil : TabOk K mg cv [] := fun n b h => by cases h
theorem TabOk.cons (h : mg n = some cls) (e : PySem.W.exmOne K cls cv = some bb) (t : TabOk K mg cv tab) : TabOk K mg cv ((n, bb) :: tab) := fun m b hl c hc => by
  rw [List.lookup_cons] at hl
  split at hl
  · rename_i hm
    have : m = n := by simpa using hm
    subst this
    cases hl
    rw [h] at hc
    cases hc
    exact e
  · exact t m b hl c hc
theorem IsOk.nil : IsOk K mg cv [] := fun n b h => by cases h
theorem IsOk.cons (h : mg n = some (.ref D)) (e1 : ExcC K D) (e : PySem.W.kitOne K (.ref D) cv = some bb) (t : IsOk K mg cv tab) : IsOk K mg cv ((n, bb) :: tab) := fun m b hl => by
  rw [List.lookup_cons] at hl
  split at hl
  · rename_i hm
    have : m = n := by simpa using hm
    subst this
    cases hl
    exact ⟨D, h, e1, e⟩
  · exact t m b hl
end
end PL
namespace PL
open PySem PySem.Spec PyProof.Rows L2
theorem ev_raise (x : Str) (ρ : Ev) : sRaise x ρ = some (.ex x ρ) := rfl
def kTA (tab : Tab) (i : Nat) (h : SF) (o : Option Out) : Option Out := match o with
  | some (.ex n ρ1) => if noEx ρ1 = true then match tab.lookup n with
    | some true => hOut i (h (ρ1.set i (.exn n)))
    | some false => some (.ex n ρ1)
    | none => none
    else none
  | r => r
theorem ev_tryAs (b : SF) (tab : Tab) (i : Nat) (h : SF) (ρ : Ev) : sTryAs b tab i h ρ = kTA tab i h (b ρ) := rfl
theorem kTA_nx (tab : Tab) (i : Nat) (h : SF) (ρ : Ev) : kTA tab i h (some (.nx ρ)) = some (.nx ρ) := rfl
theorem kTA_rt (tab : Tab) (i : Nat) (h : SF) (s : Sl) : kTA tab i h (some (.rt s)) = some (.rt s) := rfl
def kTA2 (i : Nat) (h : SF) (n : Str) (ρ : Ev) (o : Option Bool) : Option Out := match o with
  | some true => hOut i (h (ρ.set i (.exn n)))
  | some false => some (.ex n ρ)
  | none => none
theorem kTA_ex (tab : Tab) (i : Nat) (h : SF) (n : Str) (ρ : Ev) (hn : noEx ρ = true) : kTA tab i h (some (.ex n ρ)) = kTA2 i h n ρ (tab.lookup n) := by
  show (if noEx ρ = true then _ else _) = _
  rw [if_pos hn]; rfl
theorem kTA2_true (i : Nat) (h : SF) (n : Str) (ρ : Ev) : kTA2 i h n ρ (some true) = hOut i (h (ρ.set i (.exn n))) := rfl
theorem kTA2_false (i : Nat) (h : SF) (n : Str) (ρ : Ev) : kTA2 i h n ρ (some false) = some (.ex n ρ) := rfl
theorem hOut_rt (i : Nat) (s : Sl) : hOut i (some (.rt s)) = some (.rt s) := rfl
theorem hOut_nx (i : Nat) (ρ : Ev) (h : noEx (ρ.set i .und) = true) : hOut i (some (.nx ρ)) = some (.nx (ρ.set i .und)) := by
  show (if noEx (ρ.set i .und) = true then _ else _) = _
  rw [if_pos h]
theorem noEx_nil : noEx [] = true := rfl
theorem noEx_und (ρ : Ev) : noEx (.und :: ρ) = noEx ρ := by cases ρ <;> rfl
theorem noEx_val (fr : Bool) (d : PyData) (ρ : Ev) : noEx (.val fr d :: ρ) = noEx ρ := by cases ρ <;> rfl
theorem noEx_own (fr : Bool) (d : List PyData) (ρ : Ev) : noEx (.own fr d :: ρ) = noEx ρ := by cases ρ <;> rfl
theorem noEx_full (d : PyData) (ρ : Ev) : noEx (.full d :: ρ) = noEx ρ := by cases ρ <;> rfl
def kIE (tab : Tab) (o : Option Sl) : Option Rs := match o with
  | some (.exn n) => match tab.lookup n with
    | some b => some (.ok (.val true (.bool b)))
    | none => none
  | _ => none
theorem ev_isE (i : Nat) (tab : Tab) (ρ : Ev) : eIsE i tab ρ = kIE tab ρ[i]? := by unfold eIsE kIE; rfl
def kIE2 (o : Option Bool) : Option Rs := match o with | some b => some (.ok (.val true (.bool b))) | none => none
theorem kIE_ex (tab : Tab) (n : Str) : kIE tab (some (.exn n)) = kIE2 (tab.lookup n) := rfl
theorem kIE2_some (b : Bool) : kIE2 (some b) = some (.ok (.val true (.bool b))) := rfl
theorem ev_step (a b : Bool) (ds : List PyData) (k : Int) (h : 0 < k) : fStep (.val a (.list ds)) (.val b (.int k)) = some (.own (a || ds.all PL.scal) (pickL ds k)) := by
  show (if cd (0 < k) = true then _ else _) = _
  rw [if_pos (cd_true h)]
theorem ev_isNN (neg : Bool) : gIs neg .none .none = some (.bool (!neg)) := rfl
theorem ev_isBB (neg a b : Bool) : gIs neg (.bool a) (.bool b) = some (.bool (neg ^^ decide (a = b))) := rfl
theorem ev_isLN (neg : Bool) (ds : List PyData) : gIs neg (.list ds) .none = some (.bool neg) := rfl
theorem ev_isTN (neg : Bool) (ds : List PyData) : gIs neg (.tuple ds) .none = some (.bool neg) := rfl
theorem ev_isIN (neg : Bool) (i : Int) : gIs neg (.int i) .none = some (.bool neg) := rfl
theorem ev_all (bs : List Bool) : gAll (.list (bs.map .bool)) = some (.bool (bs.all id)) := by
  show ((blsD (bs.map .bool)).map fun ns => PyData.bool (ns.all id)) = _
  rw [blsD_map]; rfl
theorem ev_any (bs : List Bool) : gAny (.list (bs.map .bool)) = some (.bool (bs.any id)) := by
  show ((blsD (bs.map .bool)).map fun ns => PyData.bool (ns.any id)) = _
  rw [blsD_map]; rfl
end PL
namespace PL
open PySem PySem.Spec PyProof.Rows L2
section
variable {X : Cx} {H0 : En} {W : WX} {e a b c : Expr} {es : List Expr} {f g : EF} {pos pos' np p p2 cpos : Pos} {K : PySem.W.Frag} {B H B' H' : Hp} {σ : L2.St} {mg : Str → Option Value} {ρ : Ev} {x n m : Str} {j : Nat} {Q : VK}
theorem KQ.blU {i fr : Bool} {p : Addr} {o : HO} (h : KQ K H0 B H (.val fr (.bool i)) Q) (e : Same B H) (hp : H p = none) : Q (.bl i) (upd H p o) :=
  h (.bl i) B _ emp ⟨Same.refl _, e.trans (same_upd hp), same_upd hp, fun _ q _ => q⟩ TF.emp (.bl i)
def IsOkT (K : PySem.W.Frag) (mg : Str → Option Value) (cvs : List Value) (tab : Tab) : Prop := ∀ n b, tab.lookup n = some b → ∃ D, mg n = some (.ref D) ∧ ExcC K D ∧ PySem.W.kitAny K (.ref D) cvs = some b
variable {cv cls : Value} {cvs : List Value} {bb : Bool} {tab : Tab} {D : Addr}
theorem IsOkT.nil : IsOkT K mg cvs [] := fun n b h => by cases h
theorem IsOkT.cons (h : mg n = some (.ref D)) (e1 : ExcC K D) (e : PySem.W.kitAny K (.ref D) cvs = some bb) (t : IsOkT K mg cvs tab) : IsOkT K mg cvs ((n, bb) :: tab) := fun m b hl => by
  rw [List.lookup_cons] at hl
  split at hl
  · rename_i hm
    have : m = n := by simpa using hm
    subst this
    cases hl
    exact ⟨D, h, e1, e⟩
  · exact t m b hl
end
theorem ev_ixF (b : Bool) (ds : List PyData) (i : Int) (h : ds.all PL.scal = false) : fIx (.brf (.tuple ds)) (.val b (.int i)) = (atI ds i).map mkb := by
  show (match (if ds.all PL.scal = true then some (true, ds) else none) with | some (fr, ds) => (atI ds i).map (mkv fr) | none => _) = _
  rw [h]; rfl
theorem ev_ixFL (b : Bool) (ds : List PyData) (i : Int) (h : ds.all PL.scal = false) : fIx (.brf (.list ds)) (.val b (.int i)) = (atI ds i).map mkb := by
  show (match lstR (.brf (.list ds)) with | some (fr, ds) => (atI ds i).map (mkv fr) | none => _) = _
  rw [show lstR (.brf (.list ds)) = if ds.all PL.scal = true then some (true, ds) else none from rfl, h]; rfl
theorem mkb_int (i : Int) : mkb (.int i) = .val true (.int i) := rfl
theorem mkb_bool (i : Bool) : mkb (.bool i) = .val true (.bool i) := rfl
theorem mkb_list (d : List PyData) : mkb (.list d) = .brf (.list d) := rfl
theorem mkb_tuple (d : List PyData) : mkb (.tuple d) = .brf (.tuple d) := rfl
end PL
namespace PL
open PySem PySem.Spec PyProof.Rows L2
end PL
namespace RT
open PySem PySem.Spec PyProof.Rows
end RT
namespace PL
open PySem PySem.Spec PyProof.Rows L2 RT
end PL
namespace PL
open PySem PySem.Spec PyProof.Rows L2
section
variable {X : Cx} {H0 : En} {W : WX} {K : PySem.W.Frag} {B H B' H' : Hp} {σ : L2.St} {mg : Str → Option Value} {ρ : Ev}
/-- the inner lists so far -/
def Inn (K : PySem.W.Frag) (H0 : En) (B0 : Hp) (B H : Hp) (D : Addr) (ps : List Addr) (dss : List (List PyData)) : Prop :=
  D ∉ ps ∧ ps.Nodup ∧ ps.length = dss.length ∧ (∀ q ∈ ps, B0 q = none ∧ B q = none) ∧ ∀ (i : Nat) q ds, ps[i]? = some q → dss[i]? = some ds → ∃ vs, H q = some (.lst vs) ∧ RepAll (LF K H0 B true) vs ds
theorem Inn.nx {D : Addr} {ps : List Addr} {dss : List (List PyData)} {B0 : Hp} (h : Inn K H0 B0 B H D ps dss) (n : Nx B H B' H') : Inn K H0 B0 B' H' D ps dss := by
  obtain ⟨h1, h2, h3, h4, h5⟩ := h
  refine ⟨h1, h2, h3, fun q hq => ⟨(h4 q hq).1, n.no q (h4 q hq).2 ?_⟩, fun i q ds a b => let ⟨vs, c, d⟩ := h5 i q ds a b; ⟨vs, n.h _ _ c, d.mono (LF.mono n.b)⟩⟩
  obtain ⟨i, hi, rfl⟩ := List.mem_iff_getElem.mp hq
  obtain ⟨vs, c, -⟩ := h5 i ps[i] dss[i] (List.getElem?_eq_getElem hi) (List.getElem?_eq_getElem (by omega))
  rw [c]; simp
variable {elt tg iter e a b c : Expr} {es : List Expr} {ifs : List Expr} {scope : Scope} {own : List (Str × Nat)} {pos apos cpos tpos sp jp : Pos} {g : IF} {t : GF} {bt : BF} {ef f fi : EF} {gt : TG}
/-- the slot is frozen -/
def gFrzN (i : Nat) (ρ : Ev) : Option Ev := match ρ[i]? with
  | some (.cel (.nst dss)) => some (ρ.set i (.val true (.list (dss.map .list))))
  | _ => none
end
end PL
namespace PL
open PySem PySem.Spec PyProof.Rows L2
theorem u1 {n m : Nat} (h : n + 64 < m) : n + 1 < m := by omega
abbrev DI := List (Int × SV)
def getI (m : DI) (k : Int) : Option SV := (m.find? fun e => decide (e.1 = k)).map (·.2)
def putI (m : DI) (k : Int) (x : SV) : DI := if (m.any fun e => decide (e.1 = k)) = true then m.map (fun e => if e.1 = k then (e.1, x) else e) else m ++ [(k, x)]
def svF : PyData → Option SV
  | .int i => some (.i i)
  | .bool b => some (.b b)
  | _ => none
section
variable {X : Cx} {H0 : En} {W : WX} {K : PySem.W.Frag} {B H B' H' : Hp} {σ : L2.St} {mg : Str → Option Value} {ρ : Ev}
variable {e a b c : Expr} {pos apos cpos tpos sp : Pos} {f fi fk fv : EF} {m : DI}
/-- {} -/
def eDNewI : EF := fun _ => some (.ok (.cel (.dI [])))
/-- {k: v} -/
def eDOneI (fk fv : EF) : EF := fun ρ => PL.bz (fk ρ) fun x => PL.bz (fv ρ) fun y => match dat x, (dat y).bind svF with
  | some (.int k), some z => some (.ok (.cel (.dI [(k, z)])))
  | _, _ => none
/-- k in d, k not in d -/
def eDIn (neg : Bool) (i : Nat) (fk : EF) : EF := fun ρ => PL.bz (fk ρ) fun x => match dat x, ρ[i]? with
  | some (.int k), some (.cel (.dI m)) => some (.ok (.val true (.bool (neg ^^ (getI m k).isSome))))
  | _, _ => none
/-- d[k] -/
def eDGet (i : Nat) (fk : EF) : EF := fun ρ => match ρ[i]? with
  | some (.cel (.dI m)) => PL.bz (fk ρ) fun x => match dat x with
    | some (.int k) => match getI m k with
      | some z => some (.ok (.val true z.d))
      | none => none
    | _ => none
  | _ => none
/-- d[k] = v -/
def sDPut (i : Nat) (fk fv : EF) : SF := fun ρ => match ρ[i]? with
  | some (.cel (.dI m)) => bSz (fv ρ) ρ fun y => bSz (fk ρ) ρ fun x => match dat x, (dat y).bind svF with
    | some (.int k), some z => if m.length < 16777216 then some (.nx (ρ.set i (.cel (.dI (putI m k z))))) else none
    | _, _ => none
  | _ => none
end
theorem kSet_cel (i : Nat) (ρ : Ev) (k : CK) : kSet i ρ (some (.ok (.cel k))) = some (.nx (ρ.set i (.cel k))) := rfl
def kFrzN (i : Nat) (ρ : Ev) (o : Option Sl) : Option Ev := match o with
  | some (.cel (.nst dss)) => some (ρ.set i (.val true (.list (dss.map .list))))
  | _ => none
theorem ev_gfrzN (i : Nat) (ρ : Ev) : gFrzN i ρ = kFrzN i ρ ρ[i]? := by unfold gFrzN kFrzN; rfl
theorem kFrzN_nst (i : Nat) (ρ : Ev) (dss : List (List PyData)) : kFrzN i ρ (some (.cel (.nst dss))) = some (ρ.set i (.val true (.list (dss.map .list)))) := rfl
theorem ev_dnewI (ρ : Ev) : eDNewI ρ = some (.ok (.cel (.dI []))) := rfl
def kDOneI (a b : Option Rs) : Option Rs := PL.bz a fun x => PL.bz b fun y => match dat x, (dat y).bind svF with
  | some (.int k), some z => some (.ok (.cel (.dI [(k, z)])))
  | _, _ => none
theorem ev_doneI (fk fv : EF) (ρ : Ev) : eDOneI fk fv ρ = kDOneI (fk ρ) (fv ρ) := rfl
theorem kDOneI_i (a b : Bool) (k z : Int) : kDOneI (some (.ok (.val a (.int k)))) (some (.ok (.val b (.int z)))) = some (.ok (.cel (.dI [(k, .i z)]))) := rfl
theorem kDOneI_b (a b : Bool) (k : Int) (z : Bool) : kDOneI (some (.ok (.val a (.int k)))) (some (.ok (.val b (.bool z)))) = some (.ok (.cel (.dI [(k, .b z)]))) := rfl
def kDIn (neg : Bool) (o : Option Sl) (r : Option Rs) : Option Rs := PL.bz r fun x => match dat x, o with
  | some (.int k), some (.cel (.dI m)) => some (.ok (.val true (.bool (neg ^^ (getI m k).isSome))))
  | _, _ => none
theorem ev_din (neg : Bool) (i : Nat) (fk : EF) (ρ : Ev) : eDIn neg i fk ρ = kDIn neg ρ[i]? (fk ρ) := by unfold eDIn kDIn; rfl
theorem kDIn_ok (neg a : Bool) (m : DI) (k : Int) : kDIn neg (some (.cel (.dI m))) (some (.ok (.val a (.int k)))) = some (.ok (.val true (.bool (neg ^^ (getI m k).isSome)))) := rfl
def kDG (o : Option SV) : Option Rs := match o with | some z => some (.ok (.val true z.d)) | none => none
def kDGet (o : Option Sl) (r : Option Rs) : Option Rs := match o with
  | some (.cel (.dI m)) => PL.bz r fun x => match dat x with
    | some (.int k) => kDG (getI m k)
    | _ => none
  | _ => none
theorem ev_dget (i : Nat) (fk : EF) (ρ : Ev) : eDGet i fk ρ = kDGet ρ[i]? (fk ρ) := by unfold eDGet kDGet kDG; rfl
theorem kDGet_ok (m : DI) (a : Bool) (k : Int) : kDGet (some (.cel (.dI m))) (some (.ok (.val a (.int k)))) = kDG (getI m k) := rfl
theorem kDG_some (z : SV) : kDG (some z) = some (.ok (.val true z.d)) := rfl
theorem sv_di (i : Int) : (SV.i i).d = .int i := rfl
theorem sv_db (i : Bool) : (SV.b i).d = .bool i := rfl
def kDPut (i : Nat) (ρ : Ev) (o : Option Sl) (r q : Option Rs) : Option Out := match o with
  | some (.cel (.dI m)) => bSz r ρ fun y => bSz q ρ fun x => match dat x, (dat y).bind svF with
    | some (.int k), some z => if m.length < 16777216 then some (.nx (ρ.set i (.cel (.dI (putI m k z))))) else none
    | _, _ => none
  | _ => none
theorem ev_dput (i : Nat) (fk fv : EF) (ρ : Ev) : sDPut i fk fv ρ = kDPut i ρ ρ[i]? (fv ρ) (fk ρ) := by unfold sDPut kDPut; rfl
theorem kDPut_i (i : Nat) (ρ : Ev) (m : DI) (a b : Bool) (k z : Int) (h : m.length < 16777216) : kDPut i ρ (some (.cel (.dI m))) (some (.ok (.val a (.int z)))) (some (.ok (.val b (.int k)))) = some (.nx (ρ.set i (.cel (.dI (putI m k (.i z)))))) := by
  show (if m.length < 16777216 then _ else _) = _
  rw [if_pos h]
theorem kDPut_b (i : Nat) (ρ : Ev) (m : DI) (a b : Bool) (k : Int) (z : Bool) (h : m.length < 16777216) : kDPut i ρ (some (.cel (.dI m))) (some (.ok (.val a (.bool z)))) (some (.ok (.val b (.int k)))) = some (.nx (ρ.set i (.cel (.dI (putI m k (.b z)))))) := by
  show (if m.length < 16777216 then _ else _) = _
  rw [if_pos h]
end PL
namespace PL
open PySem PySem.Spec PyProof.Rows L2
section
variable {X : Cx} {H0 : En} {W : WX} {e : Expr} {f : EF} {K : PySem.W.Frag} {B H B' H' : Hp} {σ : L2.St} {mg : Str → Option Value} {ρ : Ev}
def fzR (o : Option Rs) : Option Rs := match o with
  | some (.ok s) => match dat (frz s) with
    | some d => if scal d = true then some (.ok (.val true d)) else none
    | none => none
  | some (.ex n) => some (.ex n)
  | none => none
def eFz (i : Nat) (f : EF) : EF := fun ρ => match gFrz i ρ with | some ρ' => fzR (f ρ') | none => none
end
def kFz (o : Option Ev) (f : EF) : Option Rs := match o with | some ρ' => fzR (f ρ') | none => none
theorem ev_fz (i : Nat) (f : EF) (ρ : Ev) : eFz i f ρ = kFz (gFrz i ρ) f := by unfold eFz kFz; rfl
theorem kFz_some (ρ : Ev) (f : EF) : kFz (some ρ) f = fzR (f ρ) := rfl
theorem fzR_int (fr : Bool) (i : Int) : fzR (some (.ok (.val fr (.int i)))) = some (.ok (.val true (.int i))) := rfl
theorem fzR_bool (fr : Bool) (i : Bool) : fzR (some (.ok (.val fr (.bool i)))) = some (.ok (.val true (.bool i))) := rfl
theorem fzR_ex (n : Str) : fzR (some (.ex n)) = some (.ex n) := rfl
end PL
namespace PL
open PySem PySem.Spec PyProof.Rows L2
section
variable {X : Cx} {H0 : En} {W : WX} {e : Expr} {f : EF} {K : PySem.W.Frag} {B H B' H' : Hp} {σ : L2.St} {mg : Str → Option Value} {ρ : Ev}
def popL (o : Option Sl) : Option (Bool × List PyData × PyData) := match o with
  | some (.own fr ds) => match ds[ds.length - 1]? with
    | some d => some (fr, ds.dropLast, d)
    | none => none
  | _ => none
def sPop (i j : Nat) : SF := fun ρ => match popL ρ[j]? with
  | some (fr, ds, d) => some (.nx ((ρ.set j (.own fr ds)).set i (.val fr d)))
  | none => none
end
def kPop (i j : Nat) (ρ : Ev) (o : Option (Bool × List PyData × PyData)) : Option Out := match o with
  | some (fr, ds, d) => some (.nx ((ρ.set j (.own fr ds)).set i (.val fr d)))
  | none => none
theorem ev_pop (i j : Nat) (ρ : Ev) : sPop i j ρ = kPop i j ρ (popL ρ[j]?) := by unfold sPop kPop; rfl
theorem kPop_some (i j : Nat) (ρ : Ev) (fr : Bool) (ds : List PyData) (d : PyData) : kPop i j ρ (some (fr, ds, d)) = some (.nx ((ρ.set j (.own fr ds)).set i (.val fr d))) := rfl
theorem popL_snoc (fr : Bool) (ds : List PyData) (d : PyData) : popL (some (.own fr (ds ++ [d]))) = some (fr, ds, d) := by
  have e : (ds ++ [d])[(ds ++ [d]).length - 1]? = some d := by
    rw [List.length_append, List.length_singleton, Nat.add_sub_cancel, List.getElem?_append_right (Nat.le_refl _), Nat.sub_self]; rfl
  show (match (ds ++ [d])[(ds ++ [d]).length - 1]? with | some d' => some (fr, (ds ++ [d]).dropLast, d') | none => none) = _
  rw [e, List.dropLast_concat]
def kTr2 (h : SF) (n : Str) (ρ : Ev) (o : Option Bool) : Option Out := match o with
  | some true => hOut0 (h ρ)
  | some false => some (.ex n ρ)
  | none => none
def kTr (tab : Tab) (h : SF) (o : Option Out) : Option Out := match o with
  | some (.ex n ρ1) => if noEx ρ1 = true then match tab.lookup n with
    | some true => hOut0 (h ρ1)
    | some false => some (.ex n ρ1)
    | none => none
    else none
  | r => r
theorem ev_try (b : SF) (tab : Tab) (h : SF) (ρ : Ev) : sTry b tab h ρ = kTr tab h (b ρ) := rfl
theorem kTr_nx (tab : Tab) (h : SF) (ρ : Ev) : kTr tab h (some (.nx ρ)) = some (.nx ρ) := rfl
theorem kTr_rt (tab : Tab) (h : SF) (s : Sl) : kTr tab h (some (.rt s)) = some (.rt s) := rfl
theorem kTr_ex (tab : Tab) (h : SF) (n : Str) (ρ : Ev) (hn : noEx ρ = true) : kTr tab h (some (.ex n ρ)) = kTr2 h n ρ (tab.lookup n) := by
  show (if noEx ρ = true then _ else _) = _
  rw [if_pos hn]; rfl
theorem kTr2_true (h : SF) (n : Str) (ρ : Ev) : kTr2 h n ρ (some true) = hOut0 (h ρ) := rfl
theorem kTr2_false (h : SF) (n : Str) (ρ : Ev) : kTr2 h n ρ (some false) = some (.ex n ρ) := rfl
theorem hOut0_rt (s : Sl) : hOut0 (some (.rt s)) = some (.rt s) := rfl
theorem hOut0_nx (ρ : Ev) (h : noEx ρ = true) : hOut0 (some (.nx ρ)) = some (.nx ρ) := by
  show (if noEx ρ = true then _ else _) = _
  rw [if_pos h]
end PL
namespace PL
open PySem PySem.Spec PyProof.Rows L2
theorem vals_ints {L : Addr → HO → Prop} : ∀ {k : List Int} {vs : List V}, RepAll L vs (k.map .int) → vs = (k.map Sum.inl : List Key).map kV
  | [], _, .nil => rfl
  | i :: k, _, .cons r rs => by
    rw [List.map_cons, List.map_cons, ← vals_ints rs]
    congr 1
    exact r.intV
end PL
namespace PL
open PySem PySem.Spec PyProof.Rows L2
def BindK (K : PySem.W.Frag) (fd : FuncData) (ps ks : List Str) (n : Nat) : Prop := ∀ (s : Shared) (us ws : List Value), K.In s.heap → us.length = n → ws.length = ks.length → BindsTo s fd ⟨us, ks.zip ws⟩ (ps.zip (us ++ ws))
structure HasK (P : Program) (w : World) (K : PySem.W.Frag) (mg : Str → Option Value) (base : Heap) (k : Nat) (x : Str) (ps ks : List Str) (n : Nat) (F : FN) : Prop where
  ex : ∃ f fd, FG P w K mg base k f fd ps (spD K mg ps.length F) ∧ mg x = some (.ref f) ∧ PySem.W.keepIn K (.ref f) = true ∧ BindK K fd ps ks n
section
variable {X : Cx} {H0 : En} {W : WX} {K : PySem.W.Frag} {B H B' H' : Hp} {σ : L2.St} {mg : Str → Option Value} {ρ : Ev}
variable {e e' : Expr} {es : List Expr} {f' : EF} {fs : List EF} {pos p kpos : Pos} {j k n : Nat} {x kw : Str} {ps ks : List Str} {F : FN} {f : Addr} {fd : FuncData}
theorem RZs.snoc {z : Sl} {v : V} (r : RZ K H0 B H v z) : ∀ {vs : List V} {ss : List Sl}, RZs K H0 B H vs ss → RZs K H0 B H (vs ++ [v]) (ss ++ [z])
  | _, _, .nil => .cons r .nil
  | _, _, .cons q qs => .cons q (RZs.snoc r qs)
theorem runFGK {pins : List (Addr × Obj)} {s : Shared} {Q : VK} {us ws : List Value} {vs zs : List V} {sp : Sp} (Fn : FG X.prog X.w X.K X.mg X.base k f fd ps sp) (hr : Room k X.A) (hg : X.A.guards = some []) (hb : BindK X.K fd ps ks n) (tk : Takes X W)
    (I : Inv X pins σ H s) (hn : us.length = n) (hw : ws.length = ks.length) (r : Vals vs us) (rz : Vals zs ws) (h : sp (vs ++ zs) H Q (WE W σ)) : wpAny (model X.prog X.w) X.A (call (.ref f) us (ks.zip ws)) (EP X pins σ Q) X.xe s := by
  have bnd := hb s us ws I.kIn hn hw
  refine wpAny_call (codeAny_mono (Fn.go X.A X.stack s H ⟨us, ks.zip ws⟩ (us ++ ws) (vs ++ zs) Q (WE W σ) hr hg I.env0 bnd (Vals.append r rz) h) fun res s' hq => ?_)
  match res, hq with
  | .ok (.ret u), hq => exact I.after hq
  | .ok .next, hq => exact hq.elim
  | .ok .brk, hq => exact hq.elim
  | .ok .cont, hq => exact hq.elim
  | .error e, hq => exact passAt tk σ pins H s e s' I hq
theorem peCallGK {sp : Sp} {t tk' : TA} {kws : List Keyword} (Fn : FG X.prog X.w X.K X.mg X.base k f fd ps sp) (hr : Room k X.A) (hgd : X.A.guards = some []) (hg : Gl X x) (hm : X.mg x = some (.ref f)) (hk : PySem.W.keepIn X.K (.ref f) = true) (hb : BindK X.K fd ps ks n) (tk : Takes X W) (ha : PA X (e :: es) t) (hkw : PK X kws tk')
    (hall : (backToKw pos (keywordEach kws X.env)).all (·.1.isSome) = true := by rfl) (hks : (backToKw pos (keywordEach kws X.env)).filterMap (·.1) = ks := by rfl)
    (hdb : (x == ("__debug__" : Str)) = false := by decide) (he : starEach (e :: es) X.env = (false, eval e X.env) :: starEach es X.env := by rfl)
    (hpl : ((backTo pos (starEach (e :: es) X.env)).any (·.1) || (backToKw pos (keywordEach kws X.env)).any (·.1.isNone)) = false := by rfl) :
    PE X (.Call (.Name x p) (e :: es) kws pos) (fun σ H Q => t σ H fun vs H1 => vs.length = n ∧ tk' σ H1 fun zs H2 => zs.length = ks.length ∧ sp (vs ++ zs) H2 Q (WE W σ)) := ⟨fun pins s σ H Q I h => by
  refine wpAny_Call_Name_kw (ld_glob I hg hm ?_ hdb)
  refine PySem.W.callWith_KW (h₀ := X.base) I.ok.mod.kin hk hall (thn (ha.run pos pins s σ H _ I h) fun us s1 ⟨vs, H1, I1, r, hl, q⟩ => ?_) hpl he
  refine thn (hkw.run pos pins s1 σ H1 _ I1 q) fun ws s2 ⟨zs, H2, I2, rz, hl2, q2⟩ => ⟨I2.kIn, ?_⟩
  rw [hks]
  exact runFGK Fn hr hgd hb tk I2 (by show us.length = n; rw [← r.length]; exact hl) (by rw [← rz.length]; exact hl2) r rz q2⟩
def eCallK (F : FN) (fs : List EF) (f : EF) : EF := fun ρ => PL.bzs (evs fs ρ) fun ss => PL.bz (f ρ) fun z => cRes F (ss ++ [z])
theorem pdCallHK (h : HasK X.prog X.w X.K X.mg X.base j x ps [kw] n F) (hr : Room k X.A) (hgd : X.A.guards = some []) (tk : Takes X W) (ha : PDs X H0 W (e :: es) fs) (hk : PD X H0 W e' f') (hj : j ≤ k := by decide) (hn : fs.length = n := by rfl) (hp : ps.length = n + 1 := by rfl) (hg : Gl X x := by rfl)
    (hall : (backToKw pos (keywordEach [⟨some kw, e', kpos⟩] X.env)).all (·.1.isSome) = true := by rfl) (hks : (backToKw pos (keywordEach [⟨some kw, e', kpos⟩] X.env)).filterMap (·.1) = [kw] := by rfl)
    (hdb : (x == ("__debug__" : Str)) = false := by decide) (he : starEach (e :: es) X.env = (false, eval e X.env) :: starEach es X.env := by rfl)
    (hpl : ((backTo pos (starEach (e :: es) X.env)).any (·.1) || (backToKw pos (keywordEach [⟨some kw, e', kpos⟩] X.env)).any (·.1.isNone)) = false := by rfl) :
    PD X H0 W (.Call (.Name x p) (e :: es) [⟨some kw, e', kpos⟩] pos) (eCallK F fs f') := by
  obtain ⟨g, fd, h1, h2, h3, h4⟩ := h.ex
  refine ⟨peWeak (peCallGK h1 (hr.mono hj) hgd hg h2 h3 h4 tk ha.pa (pk_cons hk.z pk_nil) hall hks hdb he hpl) fun σ H Q ⟨B, ρ, E, q⟩ => ⟨B, ρ, E, ?_⟩⟩
  unfold eCallK at q
  cases r : evs fs ρ with
  | none => rw [r] at q; exact (okNone q).elim
  | some o =>
    rw [r] at q
    cases o with
    | ex m =>
      rcases q with ⟨s, h1, h2⟩ | ⟨m', h1, h2⟩
      · cases h1
      · cases h1; exact .inr ⟨m, rfl, h2⟩
    | ok ss =>
      have q1 : OK X.K X.mg H0 W B H σ (PL.bz (f' ρ) fun z => cRes F (ss ++ [z])) Q := q
      refine .inl ⟨ss, rfl, fun vs B1 H1 n1 rs => ⟨by rw [rs.len, evs_len r, hn], B1, ρ, E.nx n1, OK.bz (OK.nx q1 n1) fun z v B2 H2 n2 rz q2 => ⟨rfl, ?_⟩⟩⟩
      exact call_out ((E.nx n1).nx n2) (RZs.snoc rz (rs.mono n2)) (by rw [List.length_append, rs.len, evs_len r, hn, hp]; rfl) q2
end
end PL
namespace PL
open PySem PySem.Spec PyProof.Rows L2
def isLT (d : PyData) : Bool := d.isList || d.isTuple
section
variable {X : Cx} {H0 : En} {W : WX} {e a b c : Expr} {es : List Expr} {f g : EF} {pos p p2 p3 p4 : Pos} {K : PySem.W.Frag} {B H B' H' : Hp} {σ : L2.St} {mg : Str → Option Value} {ρ : Ev} {x : Str} {Q : VK}
theorem isLT_data {prog : Program} {w : World} {A : Around} {E : Value → Shared → Prop} {s : Shared} {v : Value} {d : PyData} {as : List Addr} {tp : Addr} {Q : Value → Shared → Prop} (r : Reads s.heap v d as) (ht : s.heap.get? tp = some { cls := .type "tuple", data := .seq [Value.type "list", Value.type "tuple"].toArray })
    (h : ∀ tk, Q (.bool (isLT d)) { s with toks := tk }) : wpAny (model prog w) A (call (.builtin "isinstance") [v, .ref tp]) Q E s := by
  cases r with
  | none => exact IsiPair.tupleOfB (Tx := "NoneType") (cs := [.type "list", .type "tuple"]) (vs := [false, false]) ⟨Answers.of_false_none (by decide +kernel) PySem.F.isi_meta_list (by rw [isSubtype_type]; kernel_rfl), Answers.of_false_none (by decide +kernel) PySem.F.isi_meta_tuple (by rw [isSubtype_type]; kernel_rfl), True.intro⟩ rfl ht rfl h
  | bool b => exact IsiPair.tupleOfB (Tx := "bool") (cs := [.type "list", .type "tuple"]) (vs := [false, false]) ⟨Answers.of_false_bool (by decide +kernel) PySem.F.isi_meta_list (by rw [isSubtype_type]; kernel_rfl), Answers.of_false_bool (by decide +kernel) PySem.F.isi_meta_tuple (by rw [isSubtype_type]; kernel_rfl), True.intro⟩ rfl ht rfl h
  | int n t => exact IsiPair.tupleOfB (Tx := "int") (cs := [.type "list", .type "tuple"]) (vs := [false, false]) ⟨Answers.of_false_int (by decide +kernel) PySem.F.isi_meta_list (by rw [isSubtype_type]; kernel_rfl), Answers.of_false_int (by decide +kernel) PySem.F.isi_meta_tuple (by rw [isSubtype_type]; kernel_rfl), True.intro⟩ rfl ht rfl h
  | str x t => exact IsiPair.tupleOfB (Tx := "str") (cs := [.type "list", .type "tuple"]) (vs := [false, false]) ⟨Answers.of_false_str (by decide +kernel) PySem.F.isi_meta_list (by rw [isSubtype_type]; kernel_rfl), Answers.of_false_str (by decide +kernel) PySem.F.isi_meta_tuple (by rw [isSubtype_type]; kernel_rfl), True.intro⟩ rfl ht rfl h
  | list h1 h2 h3 h4 => exact IsiPair.tupleOfB (Tx := "list") (cs := [.type "list", .type "tuple"]) (vs := [true, false]) ⟨Answers.of_true PySem.F.isi_meta_list (by rw [isSubtype_type]; kernel_rfl), Answers.of_false_list (by decide +kernel) PySem.F.isi_meta_tuple (by rw [isSubtype_type]; kernel_rfl), True.intro⟩ ⟨_, h1, h2⟩ ht rfl h
  | tuple h1 h2 h3 h4 => exact IsiPair.tupleOfB (Tx := "tuple") (cs := [.type "list", .type "tuple"]) (vs := [false, true]) ⟨Answers.of_false_tuple (by decide +kernel) PySem.F.isi_meta_list (by rw [isSubtype_type]; kernel_rfl), Answers.of_true PySem.F.isi_meta_tuple (by rw [isSubtype_type]; kernel_rfl), True.intro⟩ ⟨_, h1, h2⟩ ht rfl h
  | dict h1 h2 h3 h4 h5 => exact IsiPair.tupleOfB (Tx := "dict") (cs := [.type "list", .type "tuple"]) (vs := [false, false]) ⟨Answers.of_false_dict (by decide +kernel) PySem.F.isi_meta_list (by rw [isSubtype_type]; kernel_rfl), Answers.of_false_dict (by decide +kernel) PySem.F.isi_meta_tuple (by rw [isSubtype_type]; kernel_rfl), True.intro⟩ ⟨_, h1, h2⟩ ht rfl h
theorem two_ty {c d : String} {us : List Value} (r : Vals [V.ty c, V.ty d] us) : us = [Value.type c, Value.type d] := by
  cases r with
  | cons r t =>
    cases r
    cases t with
    | cons r t =>
      cases r
      cases t
      rfl
def eIsLT (f : EF) : EF := fun ρ => PL.bz (f ρ) fun x => match dat x with
  | some d => some (.ok (.val true (.bool (isLT d))))
  | none => none
/-- isinstance(e, (list, tuple)) -/
theorem pdIsLT {k : Nat} {t : TA} (he : PD X H0 W e f) (hm : X.mg "isinstance" = none) (hes : PA X es t) (htt : ∀ σ H Q, Q [.ty "list", .ty "tuple"] H → t σ H Q) (hg : Gl X "isinstance" := by rfl)
    (hs1 : starEach [e, .Tuple es k p2] X.env = (false, eval e X.env) :: starEach [.Tuple es k p2] X.env := by rfl) (hs2 : starEach [.Tuple es k p2] X.env = (false, eval (.Tuple es k p2) X.env) :: starEach [] X.env := by rfl)
    (hpl : (backTo pos (starEach [.Tuple es k p2] X.env)).any (·.1) = false := by rfl) :
    PD X H0 W (.Call (.Name "isinstance" p) [e, .Tuple es k p2] [] pos) (eIsLT f) := ⟨⟨fun pins s σ H Q I ⟨B, ρ, E, q⟩ => by
  refine wpAny_Call_Name_kw (ld_blt I hg hm PyProof.Rows.boot_isinstance ?_ (by decide) (by decide))
  refine PyProof.Rows.callWith_builtin1 ?_ hs1 hpl
  rw [hs1]
  show wpAny _ _ (spliced ((false, eval e X.env) :: backTo pos (starEach [.Tuple es k p2] X.env))) _ _ s
  refine Calls.spliced_cons (thn (he.z.run pins s σ H (fun v H1 => ∃ d, Rep (LH X.K H1) v d ∧ ∀ T o, H1 T = none → Q (.bl (isLT d)) (upd H1 T o)) I ⟨B, ρ, E, OK.bz q fun x v B1 H1 n1 r1 q1 => ?_⟩) fun u s1 ⟨v, H1, I1, rv, d, rd, q1⟩ => ?_)
  · split at q1
    · rename_i d hd
      refine ⟨d, r1.data n1.bh hd, fun T o hT => ?_⟩
      rcases q1 with ⟨s', h1, h2⟩ | ⟨m, h1, h2⟩
      · cases h1; exact h2.blU n1.bh hT
      · cases h1
    · exact (okNone q1).elim
  · rw [hs2]
    show wpAny _ _ (spliced ((false, eval (.Tuple es k p2) X.env) :: backTo pos (starEach [] X.env))) _ _ s1
    refine Calls.spliced_cons (wpAny_Tuple_spliced (thn (hes.run p2 pins s1 σ H1 (fun ys H' => ys = [.ty "list", .ty "tuple"] ∧ H' = H1) I1 (htt _ _ _ ⟨rfl, rfl⟩)) fun us s2 ⟨ys, H2, I2, r2, ey, eH⟩ => ?_))
    subst ey eH
    have eu := two_ty r2
    subst eu
    refine ⟨by show 2 ≤ sizeLine; rw [sizeLine_eq]; omega, ?_⟩
    have hf := I2.hok.fresh (Nat.le_refl s2.heap.objs.size)
    have I3 := I2.laid (a := s2.heap.objs.size) (o := .tup [.ty "list", .ty "tuple"]) (h' := s2.heap.push { cls := .type "tuple", data := .seq [Value.type "list", Value.type "tuple"].toArray }) (t' := s2.toks) (fun b u e => Heap.get?_push_of_some _ e) (Nat.le_refl _)
      ⟨by show 2 ≤ sizeLine; rw [sizeLine_eq]; omega, [.type "list", .type "tuple"], r2, ⟨_, Heap.get?_push_size _ rfl, rfl, _, rfl⟩⟩
    obtain ⟨as, rs⟩ := (Rep.mono (LH.mono (same_upd hf)) rd).reads I3 rv
    refine Calls.spliced_nil ?_
    exact isLT_data rs (Heap.get?_push_size _ rfl) fun tk => ⟨.bl (isLT d), _, I3.tok tk, rfl, q1 _ _ hf⟩⟩⟩
/-- a walk over a list or a tuple -/
def iS (f : EF) : IF := fun ρ => match f ρ with
  | some (.ok s) => match frz s with
    | .val _ (.list _) => iL f ρ
    | .val _ (.tuple _) => iM mkTp f ρ
    | _ => none
  | some (.ex n) => some (.ex n)
  | none => none
theorem pidS {tg : Expr} (he : PD X H0 W e f) : PID X H0 W tg e (iS f) := ⟨⟨fun pins s σ H R I ⟨B, ρ, E, q⟩ => by
  unfold iS at q
  cases r : f ρ with
  | none => rw [r] at q; rcases q with ⟨s, h1, h2⟩ | ⟨m, h1, h2⟩ <;> cases h1
  | some o =>
    rw [r] at q
    cases o with
    | ex n =>
      refine (pidL (tg := tg) he).pi.run pins s σ H R I ⟨B, ρ, E, ?_⟩
      unfold iL
      rw [r]
      exact q
    | ok z =>
      dsimp only at q
      split at q
      · exact (pidL (tg := tg) he).pi.run pins s σ H R I ⟨B, ρ, E, q⟩
      · exact (pidT (tg := tg) he).pi.run pins s σ H R I ⟨B, ρ, E, q⟩
      · rcases q with ⟨s, h1, h2⟩ | ⟨m, h1, h2⟩ <;> cases h1⟩⟩
/-- nothing said -/
theorem fgNone {P : Program} {w : World} {base : Heap} {k n : Nat} {fa : Addr} {fd : FuncData} {ps : List Str} (hn : ps.length = n) : FG P w K mg base k fa fd ps (spD K mg n fun _ => none) :=
  ⟨fun vs H Q E h => by rw [hn]; exact h.1, fun A o s H a us vs Q E _ _ _ _ _ h => by
    obtain ⟨_, B, ds, r, _, _, hF, _⟩ := h
    cases hF⟩
theorem Fun.bindsK {x qual : Str} {st : Stmt} {fa : Addr} {fd : FuncData} {ps ks : List Str} {n : Nat} (Fn : Fun K x qual st fa fd)
    (h : ∀ (kV doc pm : Value) (an : Option Addr) (cdv ct : Value) (us ws : List Value), us.length = n → ws.length = ks.length → bindArgs (PySem.W.fnOf x qual (defArgs st) (defBody st) (defScope st) .none kV doc pm an cdv ct) ⟨us, ks.zip ws⟩ = pure (ps.zip (us ++ ws))) : BindK K fd ps ks n := by
  obtain ⟨oc, od, kV, doc, pm, an, cdv, ct, osl, rfl, lk, hcd⟩ := Fn.ex
  exact fun s us ws _ hu hw => .of_eq (h kV doc pm an cdv ct us ws hu hw)
theorem HasK.mk' {P : Program} {w : World} {base : Heap} {k n : Nat} {x qual : Str} {st : Stmt} {fa : Addr} {fd : FuncData} {ps ks : List Str} {F : FN} (Fn : Fun K x qual st fa fd) (hm : mg x = some (.ref fa)) (hb : BindK K fd ps ks n) (h : FG P w K mg base k fa fd ps (spD K mg ps.length F)) : HasK P w K mg base k x ps ks n F := ⟨fa, fd, h, hm, Fn.kp, hb⟩
end
def kCallK (F : FN) (r : Option Ra) (q : Option Rs) : Option Rs := PL.bzs r fun ss => PL.bz q fun z => cRes F (ss ++ [z])
theorem ev_callK (F : FN) (fs : List EF) (f : EF) (ρ : Ev) : eCallK F fs f ρ = kCallK F (evs fs ρ) (f ρ) := rfl
theorem kCallK_ok (F : FN) (ss : List Sl) (s : Sl) : kCallK F (some (.ok ss)) (some (.ok s)) = cRes F (ss ++ [frz s]) := rfl
def kIsLT (o : Option Rs) : Option Rs := PL.bz o fun x => match dat x with
  | some d => some (.ok (.val true (.bool (isLT d))))
  | none => none
theorem ev_isLT (f : EF) (ρ : Ev) : eIsLT f ρ = kIsLT (f ρ) := rfl
theorem kIsLT_val (fr : Bool) (d : PyData) : kIsLT (some (.ok (.val fr d))) = some (.ok (.val true (.bool (isLT d)))) := rfl
theorem isLT_list (d : List PyData) : isLT (.list d) = true := rfl
theorem isLT_tuple (d : List PyData) : isLT (.tuple d) = true := rfl
theorem isLT_int (i : Int) : isLT (.int i) = false := rfl
theorem isLT_none : isLT .none = false := rfl
theorem isLT_bool (b : Bool) : isLT (.bool b) = false := rfl
def kIS (o : Option Rs) : Option Ri := match o with
  | some (.ok s) => match frz s with
    | .val fr (.list ds) => some (.ok (ds.map (mkv fr)))
    | .val fr (.tuple ds) => some (.ok (ds.map (mkv fr)))
    | _ => none
  | some (.ex n) => some (.ex n)
  | none => none
theorem ev_iS (f : EF) (ρ : Ev) : iS f ρ = kIS (f ρ) := by
  unfold iS kIS
  cases r : f ρ with
  | none => rfl
  | some o =>
    cases o with
    | ex n => rfl
    | ok s =>
      dsimp only
      split
      · rename_i h; unfold iL; rw [r]; dsimp only; rw [h]
      · rename_i h; unfold iM; rw [r]; dsimp only; rw [h]; rfl
      · rfl
theorem kIS_list (fr : Bool) (ds : List PyData) : kIS (some (.ok (.val fr (.list ds)))) = some (.ok (ds.map (mkv fr))) := rfl
theorem kIS_tuple (fr : Bool) (ds : List PyData) : kIS (some (.ok (.val fr (.tuple ds)))) = some (.ok (ds.map (mkv fr))) := rfl
end PL
namespace PL
open PySem PySem.Spec PyProof.Rows L2
section
variable {X : Cx} {H0 : En} {W : WX} {e a b c : Expr} {es : List Expr} {f g : EF} {pos np pos' np2 pos2 : Pos} {x x2 : Str}
/-- what a clause makes of an exception n -/
def cOut (tab : Tab) (h : SF) (n : Str) (ρ1 : Ev) (r : Option Out) : Option Out := match tab.lookup n with
  | some true => hOut0 (h ρ1)
  | some false => r
  | none => none
def sTry2 (body : SF) (tab : Tab) (h : SF) (tab2 : Tab) (h2 : SF) : SF := fun ρ => match body ρ with
  | some (.ex n ρ1) => if noEx ρ1 = true then cOut tab h n ρ1 (cOut tab2 h2 n ρ1 (some (.ex n ρ1))) else none
  | r => r
theorem clause_ok {K : PySem.W.Frag} {mg : Str → Option Value} {B1 H1 : Hp} {σ1 : L2.St} {ρ1 : Ev} {o : Out} {D : Ends} {h : SF} {n1 : Str} {cls : Value} {av : Addr} (hm1 : mg n1 = some cls) (hne : noEx ρ1 = true) (E1 : ER K H0 B1 H1 σ1 ρ1) (hF : hOut0 (h ρ1) = some o) (ho1 : OUT K mg H0 W B1 o D) : tH K mg H0 h av cls none D σ1 H1 := by
  have E2 := E1.at hne av fun n => mg n = some cls
  cases rh : h ρ1 with
  | none => rw [rh] at hF; cases hF
  | some oh =>
    rw [rh] at hF
    refine ⟨n1, B1, _, oh, hm1, rfl, E2, rh, ?_⟩
    cases oh with
    | nx ρ2 =>
      unfold hOut0 at hF
      dsimp only at hF
      split at hF
      · rename_i hn2; cases hF; exact fun σ3 B3 H3 E3 s3 => ho1 _ B3 H3 (E3.off hn2) s3
      · cases hF
    | bk ρ2 =>
      unfold hOut0 at hF
      dsimp only at hF
      split at hF
      · rename_i hn2; cases hF; exact fun σ3 B3 H3 E3 s3 => ho1 _ B3 H3 (E3.off hn2) s3
      · cases hF
    | ct ρ2 =>
      unfold hOut0 at hF
      dsimp only at hF
      split at hF
      · rename_i hn2; cases hF; exact fun σ3 B3 H3 E3 s3 => ho1 _ B3 H3 (E3.off hn2) s3
      · cases hF
    | rt s =>
      cases hF
      exact fun v σ3 ρ3 B3 H3 T E3 s3 t1 t2 rr => ho1 v σ3 _ B3 H3 T E3.offU s3 t1 t2 (by cases s <;> exact rr)
    | ex n2 ρ2 => cases hF
theorem psdTry2 {body suite suite2 : List Stmt} {b₀ b₁ : Stmt} {F h h2 : SF} {tab tab2 : Tab} {cv cv2 : Value} (hs : X.stack = X.env :: X.outer) (hf : X.env.frame = some X.env.locals) (hc : Names X x cv) (hc2 : Names X x2 cv2) (tk : Takes X W) (ht : TabOk X.K X.mg cv tab) (ht2 : TabOk X.K X.mg cv2 tab2)
    (hb : ∀ (W : WX) (pn : List (Addr × Obj)) (xe : Value → Shared → Prop), Takes (X.tr pn xe) W → PassesOwn (model X.prog X.w) X.A X.env xe → PSDs (X.tr pn xe) H0 W body F)
    (hsu : ∀ (a : Addr) (oe : Obj) (pn : List (Addr × Obj)) (cls : Value), Zc cls none oe → (∃ vs, oe.data = .fields vs) → PSDs (X.suite a ((a, oe) :: pn)) (H0.at a fun n => X.mg n = some cls) W0 (b₀ :: suite) h)
    (hsu2 : ∀ (a : Addr) (oe : Obj) (pn : List (Addr × Obj)) (cls : Value), Zc cls none oe → (∃ vs, oe.data = .fields vs) → PSDs (X.suite a ((a, oe) :: pn)) (H0.at a fun n => X.mg n = some cls) W0 (b₁ :: suite2) h2) :
    PSD X H0 W (.Try body [.ExceptHandler (some (.Name x np)) none (b₀ :: suite) pos', .ExceptHandler (some (.Name x2 np2)) none (b₁ :: suite2) pos2] [] [] pos) (sTry2 F tab h tab2 h2) := by
  refine ⟨psWeak (ps_try_many (Wout := W) (tb := fun W => tS X.K X.mg H0 W F) (l := [(cv, tH X.K X.mg H0 h), (cv2, tH X.K X.mg H0 h2)]) hs hf tk (fun W' pn xe tk' hp => (hb W' pn xe tk' hp).pss) (.cons hc (fun a oe cls d pn hz hfl => ?_) (.cons hc2 (fun a oe cls d pn hz hfl => ?_) .nil))) fun D σ H ⟨B, ρ, o, E, hF, ho⟩ => ?_⟩
  · refine ⟨fun pins s σ H D I hh => ?_⟩
    obtain ⟨n', B, ρ, o, hm, hd, E, h1, h2⟩ := hh
    subst hd
    exact (hsu a oe pn cls hz hfl).pss.run pins s σ H D I ⟨B, ρ, o, E, h1, h2⟩
  · refine ⟨fun pins s σ H D I hh => ?_⟩
    obtain ⟨n', B, ρ, o, hm, hd, E, h1, h2⟩ := hh
    subst hd
    exact (hsu2 a oe pn cls hz hfl).pss.run pins s σ H D I ⟨B, ρ, o, E, h1, h2⟩
  · unfold sTry2 at hF
    cases r : F ρ with
    | none => rw [r] at hF; cases hF
    | some o1 =>
      rw [r] at hF
      refine ⟨B, ρ, o1, E, r, ?_⟩
      cases o1 with
      | nx ρ' => cases hF; exact ho
      | rt s => cases hF; exact ho
      | bk ρ' => cases hF; exact ho
      | ct ρ' => cases hF; exact ho
      | ex n1 ρ1 =>
        dsimp only at hF
        split at hF
        · rename_i hne
          intro cls σ1 B1 H1 hm1 E1 s1
          unfold cOut at hF
          cases hl : tab.lookup n1 with
          | none => rw [hl] at hF; cases hF
          | some b1 =>
            rw [hl] at hF
            refine ⟨b1, ht n1 b1 hl cls hm1, fun hb1 a na => ?_, fun hb1 => ?_⟩
            · subst hb1
              exact clause_ok hm1 hne E1 hF (ho.same s1)
            · subst hb1
              dsimp only at hF
              cases hl2 : tab2.lookup n1 with
              | none => rw [hl2] at hF; cases hF
              | some b2 =>
                rw [hl2] at hF
                refine ⟨b2, ht2 n1 b2 hl2 cls hm1, fun hb2 a na => ?_, fun hb2 => ?_⟩
                · subst hb2
                  exact clause_ok hm1 hne E1 hF (ho.same s1)
                · subst hb2
                  dsimp only at hF
                  cases hF
                  exact ho.same s1 cls σ1 B1 H1 hm1 E1 (Same.refl _)
        · cases hF
end
def kTry2 (tab : Tab) (h : SF) (tab2 : Tab) (h2 : SF) (o : Option Out) : Option Out := match o with
  | some (.ex n ρ1) => if noEx ρ1 = true then cOut tab h n ρ1 (cOut tab2 h2 n ρ1 (some (.ex n ρ1))) else none
  | r => r
theorem ev_try2 (b : SF) (tab : Tab) (h : SF) (tab2 : Tab) (h2 : SF) (ρ : Ev) : sTry2 b tab h tab2 h2 ρ = kTry2 tab h tab2 h2 (b ρ) := rfl
theorem kTry2_nx (tab : Tab) (h : SF) (tab2 : Tab) (h2 : SF) (ρ : Ev) : kTry2 tab h tab2 h2 (some (.nx ρ)) = some (.nx ρ) := rfl
theorem kTry2_rt (tab : Tab) (h : SF) (tab2 : Tab) (h2 : SF) (s : Sl) : kTry2 tab h tab2 h2 (some (.rt s)) = some (.rt s) := rfl
def kCl (o : Option Bool) (h : SF) (ρ : Ev) (r : Option Out) : Option Out := match o with
  | some true => hOut0 (h ρ)
  | some false => r
  | none => none
theorem kTry2_ex (tab : Tab) (h : SF) (tab2 : Tab) (h2 : SF) (n : Str) (ρ : Ev) (hn : noEx ρ = true) : kTry2 tab h tab2 h2 (some (.ex n ρ)) = kCl (tab.lookup n) h ρ (kCl (tab2.lookup n) h2 ρ (some (.ex n ρ))) := by
  show (if noEx ρ = true then _ else _) = _
  rw [if_pos hn]; rfl
theorem kCl_true (h : SF) (ρ : Ev) (r : Option Out) : kCl (some true) h ρ r = hOut0 (h ρ) := rfl
theorem kCl_false (h : SF) (ρ : Ev) (r : Option Out) : kCl (some false) h ρ r = r := rfl
section
variable {X : Cx} {H0 : En} {W : WX} {K : PySem.W.Frag} {B H B' H' : Hp} {σ : L2.St} {ρ : Ev} {F : Nat → Hp}
/-- a cell of a forgotten slot's part is written -/
theorem FF.write {i : Nat} {p : Addr} {u : HO} (h : FF K H0 B H σ ρ F) (hi : ∀ s, ρ[i]? = some s → s = .und) (hp : F i p ≠ none) : FF K H0 B (upd H p u) σ ρ (fun j => if j = i then upd (F i) p u else F j) := by
  obtain ⟨f1, f2, f3, f4⟩ := h
  refine ⟨fun j => ?_, fun j a z => ?_, fun j k a hjk z => ?_, fun j s hs => ?_⟩
  · dsimp only
    split
    · intro a o q
      by_cases e : a = p
      · subst e; rw [upd_same] at q ⊢; exact q
      · rw [upd_ne e] at q ⊢; exact f1 i a o q
    · rename_i hj
      exact same_updD (f1 j) (f3 i j p (Ne.symm hj) hp)
  · dsimp only at z
    split at z
    · by_cases e : a = p
      · subst e; exact f2 i a hp
      · rw [upd_ne e] at z; exact f2 i a z
    · exact f2 j a z
  · dsimp only at z ⊢
    split at z
    · rename_i ej
      rw [if_neg (fun e => hjk (ej.trans e.symm))]
      by_cases e : a = p
      · subst e; exact f3 i k a (fun e => hjk (ej.trans e)) hp
      · rw [upd_ne e] at z; exact f3 i k a (fun e => hjk (ej.trans e)) z
    · split
      · rename_i hj ek
        have n1 : F i a = none := f3 j i a hj z
        by_cases e : a = p
        · subst e; exact absurd n1 hp
        · rw [upd_ne e]; exact n1
      · exact f3 j k a hjk z
  · dsimp only
    split
    · rename_i ej
      subst ej
      rw [hi s hs]; trivial
    · exact f4 j s hs
def isIntD : PyData → Bool
  | .int _ => true
  | _ => false
def okIt (m : Nat) : PyData → Bool
  | .tuple (.list es :: ws) => es.all isIntD && decide (es.length ≤ m) && ws.all isIntD
  | _ => false
theorem isIntD_map : ∀ {es : List PyData}, es.all isIntD = true → ∃ is : List Int, es = is.map .int
  | [], _ => ⟨[], rfl⟩
  | e :: es, h => by
    rw [List.all_cons, Bool.and_eq_true] at h
    obtain ⟨is, rfl⟩ := isIntD_map h.2
    cases e <;> first | cases h.1 | skip
    rename_i i
    exact ⟨i :: is, rfl⟩
/-- the walked list's part -/
structure Shp (N : Hp) (p : Addr) (vs : List V) (m : Nat) : Prop where
  l : N p = some (.lst vs)
  it : ∀ v ∈ vs, ∃ (t q : Addr) (us ws : List Int), v = .ref t ∧ N t = some (.tup (.ref q :: ws.map V.int)) ∧ N q = some (.lst (us.map V.int)) ∧ us.length ≤ m
theorem shp_of {N : Hp} {v : V} {ds : List PyData} {m : Nat} (r : Rep (LN N) v (.list ds)) (h : ds.all (okIt m) = true) : ∃ p vs, v = .ref p ∧ Shp N p vs m ∧ vs.length = ds.length := by
  obtain ⟨p, vs, rfl, h1, h2⟩ := Rep.lstV r
  refine ⟨p, vs, rfl, ⟨h1, fun v hv => ?_⟩, h2.length⟩
  obtain ⟨i, hi, e⟩ := List.getElem_of_mem hv
  obtain ⟨d, hd, rd⟩ := h2.at' (i := i) (v := v) (by rw [List.getElem?_eq_getElem hi, e])
  have hok : okIt m d = true := List.all_eq_true.mp h d (List.mem_of_getElem? hd)
  cases d <;> first | cases hok | skip
  rename_i es
  obtain ⟨t, ts, rfl, t1, t2⟩ := Rep.tupV rd
  cases es with
  | nil => cases hok
  | cons e es =>
    cases e <;> first | cases hok | skip
    rename_i ls
    have hok : (ls.all isIntD && decide (ls.length ≤ m) && es.all isIntD) = true := hok
    rw [Bool.and_eq_true, Bool.and_eq_true, decide_eq_true_eq] at hok
    obtain ⟨us, rfl⟩ := isIntD_map hok.1.1
    obtain ⟨ws, rfl⟩ := isIntD_map hok.2
    cases t2 with
    | cons r1 r2 =>
      obtain ⟨q, qs, rfl, q1, q2⟩ := Rep.lstV r1
      rw [RepAll.of_ints r2] at t1
      rw [RepAll.of_ints q2] at q1
      exact ⟨t, q, us, ws, rfl, t1, q1, by have := hok.1.2; rwa [List.length_map] at this⟩
theorem Shp.put {N : Hp} {p : Addr} {vs : List V} {m : Nat} (S : Shp N p vs m) {q : Addr} {us : List Int} (c : Int) (hv : vs ≠ []) (hq : N q = some (.lst (us.map V.int))) (hl : us.length ≤ m) : Shp (upd N q (.lst (us.map V.int ++ [V.int c]))) p vs (m + 1) := by
  have hp : p ≠ q := by
    rintro rfl
    have e := S.l.symm.trans hq
    injection e with e
    injection e with e
    cases vs with
    | nil => exact hv rfl
    | cons v vs =>
      obtain ⟨t, q, us', ws, e1, -⟩ := S.it v List.mem_cons_self
      rw [e1] at e
      cases us with
      | nil => cases e
      | cons u us => injection e with e _; cases e
  refine ⟨by rw [upd_ne hp]; exact S.l, fun v hv => ?_⟩
  obtain ⟨t, q', us', ws, e1, e2, e3, e4⟩ := S.it v hv
  have ht : t ≠ q := by rintro rfl; rw [hq] at e2; cases e2
  by_cases e : q' = q
  · subst e
    refine ⟨t, q', us ++ [c], ws, e1, by rw [upd_ne ht]; exact e2, by rw [upd_same, List.map_append]; rfl, by rw [List.length_append, List.length_singleton]; omega⟩
  · exact ⟨t, q', us', ws, e1, by rw [upd_ne ht]; exact e2, by rw [upd_ne e]; exact e3, by omega⟩
def sForApp (k i : Nat) (M : Nat) : SF := fun ρ => match ρ[i]? with
  | some (.full (.list ds)) => if ds.all (okIt M) = true ∧ ds.length + M < 16777216 ∧ k < ρ.length then some (.nx ((ρ.set i .und).set k .und)) else none
  | _ => none
theorem psdForApp {k i M kk : Nat} {x : Str} {ci : Int} {e tst : Expr} {t : BF} {ret : List Stmt} {G : SF} {px apos cpos jp sp pos ipos epos : Pos} {kc : Nat} {pc : Pos} (hp : PassesOwn (model X.prog X.w) X.A X.env X.xe) (hc : X.calm = true) (hik : i ≠ k)
    (he : PE X e (tVar i)) (hN : X.N.Nodup) (hx : X.N[k]? = some x) (hl : Loc X.env.scope x) (ho : PE X o (tVar k)) (ht : PB X H0 W tst t) (htt : ∀ ρ ds, ρ[k]? = some (.full (.tuple ds)) → t ρ = some (.ok false)) (hr : PSDs X H0 W ret G)
    (hf : X.fn x = true ∨ X.env.scope.names.lookup x = some .local := by first | exact .inl rfl | exact .inr rfl | assumption)
    (hbase : attributeBase (.Subscript o (.Constant (.int 0) kk jp) sp) "append" X.env (eval (.Subscript o (.Constant (.int 0) kk jp) sp) X.env) = eval (.Subscript o (.Constant (.int 0) kk jp) sp) X.env := by rfl)
    (hfew : ((backTo cpos (starEach [Expr.Constant (.int ci) kc pc] X.env)).all (fun x => !x.1) && (backToKw cpos (keywordEach [] X.env)).all (fun x => x.1.isSome) && decide ([Expr.Constant (.int ci) kc pc].length + ([] : List Keyword).length + (if ([] : List Keyword).isEmpty then 0 else 1) < 30)) = true := by rfl)
    (hline : (apos.endLine == cpos.line) = true := by rfl) (hs : starEach [Expr.Constant (.int ci) kc pc] X.env = (false, eval (Expr.Constant (.int ci) kc pc) X.env) :: starEach [] X.env := by rfl) (hplain : (backTo cpos (starEach [] X.env)).any (·.1) = false := by rfl)
    (hsw : swapsWith (.Call (.Attribute (.Subscript o (.Constant (.int 0) kk jp) sp) "append" apos) [.Constant (.int ci) kc pc] [] cpos) none epos.line X.env = pure false := by rfl)
    (hset : ∀ z, foldedSetIterable e X.env z = pure z := by intro _; rfl) :
    PSD X H0 W (.For (.Name x px) e [.If tst ret [] ipos, .Expr (.Call (.Attribute (.Subscript o (.Constant (.int 0) kk jp) sp) "append" apos) [.Constant (.int ci) kc pc] [] cpos) epos] [] pos) (sForApp k i M) :=
  ⟨psWeak (ps_for hp hc (pi_list he) (pg_name hN hx hl hf) (pss_cons (ps_if ht.pt hr.pss pss_nil) (pss_one (ps_expr (pe_bm PySem.F.plainAttrs_list PySem.F.slot_list_append PySem.F.type_list_append mt_append (pe_ix ix_seq ho pe_int (fun _ _ => rfl)) (pa_cons pe_int pa_nil hs) hbase hfew hline hs hplain) hsw))) hset) fun D σ H ⟨B, ρ, out, E, h, hout⟩ => by
  unfold sForApp at h
  split at h
  · rename_i ds hi
    split at h
    · rename_i hok
      cases h
      obtain ⟨F, f1, f2, f3, f4⟩ := E.ex
      obtain ⟨v, e1, r1⟩ := f4 i _ hi
      obtain ⟨p, vs, rfl, S, hlen⟩ := shp_of r1 hok.1
      have ff0 : FF X.K H0 B H σ ρ F := ⟨f1, f2, f3, f4⟩
      refine ⟨_, e1, p, rfl, ⟨vs, SqL.of (f1 i _ _ S.l)⟩, ?_⟩
      refine for_list (xs := vs) (Pv := fun n σ H => ∃ (B' : Hp) (F : Nat → Hp), Same B B' ∧ Same H0.H H ∧ Same H0.B B' ∧ (∀ a, H0.H a ≠ none → H0.B a = none → B' a = none) ∧ Same B' H ∧ σ.length = ((ρ.set i .und).set k .und).length ∧ FF X.K H0 B' H σ ((ρ.set i .und).set k .und) F ∧ Shp (F i) p vs (M + n)) ⟨B, F, Same.refl _, E.e0, E.b0, E.n0, E.eB, ?_, ?_, S⟩ (fun n σ H _ ⟨B', F, _, _, _, _, _, _, ff, S⟩ => SqL.of (ff.1 i _ _ S.l)) (fun n v σ H hv ⟨B', F, sB, q0, q1, q2, q3, q4, ff, S⟩ => ?_) (fun σ H ⟨B', F, sB, q0, q1, q2, q3, q4, ff, S⟩ => hout σ B' H ⟨q0, q1, q2, q3, q4, F, ff⟩ sB)
      · rw [List.length_set, List.length_set]; exact E.len
      · have := (FF.forget (i := i) ff0 none)
        refine ⟨f1, f2, f3, fun j u hu => ?_⟩
        by_cases hk : j = k
        · subst hk
          by_cases hl : j < ρ.length
          · rw [List.getElem?_set_self (by rw [List.length_set]; exact hl)] at hu
            cases hu; trivial
          · rw [List.getElem?_eq_none (by rw [List.length_set, List.length_set]; omega)] at hu; cases hu
        · rw [List.getElem?_set_ne (Ne.symm hk)] at hu
          by_cases hji : j = i
          · subst hji
            have hl : j < ρ.length := (List.getElem?_eq_some_iff.mp hi).1
            rw [List.getElem?_set_self hl] at hu
            cases hu; trivial
          · rw [List.getElem?_set_ne (Ne.symm hji)] at hu
            exact f4 j u hu
      · have hmem : v ∈ vs := List.mem_of_getElem? hv
        obtain ⟨tt, q, us, ws, rfl, t1, t2, t3⟩ := S.it v hmem
        have hvs : vs ≠ [] := fun z => by rw [z] at hmem; cases hmem
        have hn : n < vs.length := (List.getElem?_eq_some_iff.mp hv).1
        have hk : k < σ.length := by rw [q4, List.length_set, List.length_set]; exact hok.2.2
        have hkρ : k < ρ.length := hok.2.2
        have er : ((ρ.set i .und).set k .und)[i]? = some .und := by rw [List.getElem?_set_ne (Ne.symm hik), List.getElem?_set_self (List.getElem?_eq_some_iff.mp hi).1]
        have E2 : ER X.K H0 B' H (σ.set k (some (.ref tt))) (((ρ.set i .und).set k .und).set k (.full (.tuple (.list (us.map .int) :: ws.map .int)))) := by
          obtain ⟨g1, g2, g3, g4⟩ := ff
          refine ⟨q0, q1, q2, q3, by rw [List.length_set, List.length_set]; exact q4, fun j => if j = k then F i else if j = i then emp else F j, fun j => ?_, fun j a z => ?_, fun j l a hjl z => ?_, fun j u hu => ?_⟩
          · dsimp only
            split
            · exact g1 i
            · split
              · exact fun _ _ z => nomatch z
              · exact g1 j
          · dsimp only at z
            split at z
            · exact g2 i a z
            · split at z
              · exact absurd rfl z
              · exact g2 j a z
          · dsimp only at z ⊢
            split at z
            · rename_i ej
              rw [if_neg (fun e => hjl (ej.trans e.symm))]
              split
              · rfl
              · rename_i nl; exact g3 i l a (fun e => nl e.symm) z
            · split at z
              · exact absurd rfl z
              · rename_i nk ni
                split
                · exact g3 j i a ni z
                · split
                  · rfl
                  · exact g3 j l a hjl z
          · dsimp only
            by_cases ej : j = k
            · subst ej
              rw [List.getElem?_set_self (by rw [List.length_set, List.length_set]; exact hkρ)] at hu
              cases hu
              rw [if_pos rfl]
              exact ⟨.ref tt, List.getElem?_set_self hk, .tup t1 (.cons (.lst t2 (RepAll.ints _ us)) (RepAll.ints _ ws))⟩
            · rw [List.getElem?_set_ne (Ne.symm ej)] at hu
              rw [if_neg ej, List.getElem?_set_ne (Ne.symm ej)]
              split
              · rename_i ei
                subst ei
                rw [er] at hu
                cases hu; trivial
              · exact g4 j u hu
        refine ⟨B', _, E2, .inl ⟨false, htt _ _ (List.getElem?_set_self (by rw [List.length_set, List.length_set]; exact hkρ)), fun B2 H2 n2 => ?_⟩⟩
        simp only [Bool.false_eq_true, if_false]
        have ff2 := FF.nx ff n2
        have hF : F i q ≠ none := by rw [t2]; exact fun z => nomatch z
        obtain ⟨g1, g2⟩ := ff2.2.1 i q hF
        have hT : H2 tt = some (.tup (.ref q :: ws.map V.int)) := ff2.1 i _ _ t1
        have hQ : H2 q = some (.lst (us.map V.int)) := ff2.1 i _ _ t2
        have ff3 : FF X.K H0 B2 H2 (σ.set k (some (.ref tt))) ((ρ.set i .und).set k .und) F := by
          have := FF.forget (i := k) ff2 (some (.ref tt))
          rw [List.set_set] at this
          exact this
        refine ⟨.ref tt, List.getElem?_set_self hk, .inr (.inl ⟨tt, _, 0, .ref q, rfl, rfl, SqT.of hT, atI_0 _, .inl ⟨rfl, _, SqL.of hQ⟩, q, us.map V.int, .int ci, rfl, rfl, hQ, by rw [List.length_map, sizeLine_eq]; omega, ?_⟩)⟩
        refine ⟨B2, _, sB.trans n2.b, same_updD (q0.trans n2.h) g2, q1.trans n2.b, fun a h1 h2 => n2.no a (q2 a h1 h2) (PL.Same.ne q0 h1), same_updD n2.bh g1, by rw [List.length_set]; exact q4, FF.write ff3 (fun s hs => by rw [er] at hs; exact (Option.some.inj hs).symm) hF, ?_⟩
        rw [if_pos rfl]
        exact S.put ci hvs t2 t3
    · cases h
  · cases h⟩
end
theorem apt_ok {k : Nat} {ρ : Ev} {ds : List PyData} (h : ρ[k]? = some (.full (.tuple ds))) : bNot (tOf (eIsa PyData.isTuple (eVar k))) ρ = some (.ok false) := by
  have e : eVar k ρ = some (.ok (.brf (.tuple ds))) := by rw [ev_var, h]; rfl
  show bNot (tOf (eIsa PyData.isTuple (eVar k))) ρ = _
  unfold bNot tOf
  rw [ev_isa, e]
  rfl
def kFA (k i M : Nat) (ρ : Ev) (o : Option Sl) : Option Out := match o with
  | some (.full (.list ds)) => if ds.all (okIt M) = true ∧ ds.length + M < 16777216 ∧ k < ρ.length then some (.nx ((ρ.set i .und).set k .und)) else none
  | _ => none
theorem ev_forApp (k i M : Nat) (ρ : Ev) : sForApp k i M ρ = kFA k i M ρ ρ[i]? := by unfold sForApp kFA; rfl
theorem kFA_ok (k i M : Nat) (ρ : Ev) (ds : List PyData) (h1 : ds.all (okIt M) = true) (h2 : ds.length + M < 16777216) (h3 : k < ρ.length) : kFA k i M ρ (some (.full (.list ds))) = some (.nx ((ρ.set i .und).set k .und)) := by
  show (if _ then _ else _) = _
  rw [if_pos ⟨h1, h2, h3⟩]
end PL
local macro_rules
  | `(tactic| simp_arith only [$args,*]) => `(tactic| simp only [PL.bs1, PL.bs2, PL.bs3, PL.bs4, PL.bs5, PL.bs6, PL.bs7, PL.bs8, PL.bs9, PL.bs10, PL.bs11, PL.bs12, PL.bs13, PL.bs14, PL.bs15, PL.bs16, PL.bs17, PL.bs18, PL.bs19, PL.bs20, PL.bs21, PL.bs22, PL.bs23, PL.bs24, PL.bs25, PL.bs26, PL.bs27, PL.bs28, PL.bs29, PL.bs30, PL.bs31, PL.bs32, PL.bs33, PL.bs34, PL.bs35, PL.bs36, PL.bs37, PL.bs38, PL.bs39, PL.bs40, PL.bs41, PL.ev_seq, PL.kSeq_nx, PL.kSeq_rt, PL.kSeq_bk, PL.kSeq_ct, PL.kSeq_ex, PL.ev_nil, PL.ev_pass, PL.ev_break, PL.ev_cont, PL.ev_retn, PL.ev_fg, PL.fgt_nil, PL.fgt_cons, PL.ev_gh, PL.kGh_some, PL.ev_gfrz, PL.kFrz_some, PL.ev_gown, PL.kOwn_full, PL.kOwn_own, PL.kOwn_val, PL.ev_setZ, PL.kSetZ_val, PL.kSetZ_own, PL.kSetZ_full, PL.kSetZ_ex, PL.ev_set, PL.kSet_val, PL.kSet_own, PL.kSet_full, PL.kSet_ex, PL.ev_ret, PL.kRet_val, PL.kRet_own, PL.kRet_full, PL.kRet_ex, PL.ev_retO, PL.kRetO_own, PL.kRetO_val, PL.kRetO_full, PL.ev_expr, PL.kExpr_ok, PL.kExpr_ex, PL.ev_if, PL.kIf_true, PL.kIf_false, PL.ev_for, PL.kFor_ok, PL.ev_while, PL.ev_turn, PL.kTurn1_some, PL.kTurn_nx, PL.kTurn_ct, PL.kTurn_bk, PL.kTurn_rt, PL.kTurn_ex, PL.ev_wturn, PL.kW_true, PL.kW_false, PL.ev_gN, PL.ev_gT, PL.kT_some, PL.itemsT_val, PL.gSets_nil, PL.gSets_val, PL.mkv_int, PL.mkv_bool, PL.mkv_str, PL.mkv_none, PL.mkv_list, PL.mkv_tuple, PL.ev_unp, PL.kUnp_val, PL.kUnp_full, PL.kU_some, PL.ev_aug, PL.kAug_val, PL.kA_some, PL.ev_app, PL.kApp_val, PL.kApp_own, PL.kApp_full, PL.ev_put, PL.kPut_val, PL.callF_eq, PL.entE_nil, PL.unds_succ, PL.unds_zero, PL.entE_cons, PL.entS_int, PL.entS_bool, PL.entS_str, PL.entS_none, PL.entS_list, PL.entS_tuple, PL.kF_nx, PL.kF_rt, PL.kF_ex, PL.frOf_val, PL.frOf_own, PL.frOf_full, PL.ev_var, PL.kVar_val, PL.kVar_own, PL.kVar_full, PL.ev_c, PL.ev_e2, PL.k2_ok, PL.okO_some, PL.ev_e1, PL.k1_ok, PL.frz_val, PL.frz_own, PL.frz_full, PL.frz_bor, PL.frz_brf, PL.dat_val, PL.dat_bor, PL.dat_brf, PL.ev_evs0, PL.ev_evs, PL.kC_ok, PL.ev_cb, PL.kCB_ok, PL.ev_call, PL.kCall_ok, PL.ev_cres, PL.kRs_some, PL.kRes_int, PL.kRes_bool, PL.kRes_str, PL.kRes_none, PL.kRes_list, PL.kRes_tuple, PL.kRes_false, PL.kRes_exc, PL.dats_nil, PL.dats_cons, PL.kD_some, PL.isVal_val, PL.isVal_bor, PL.isVal_brf, PL.ev_isa, PL.kIsa_val, PL.kIsa_own, PL.kIsa_bor, PL.kIsa_full, PL.kIsa_brf, PL.ev_and, PL.kAnd_val, PL.kAnd2_true, PL.kAnd2_false, PL.kAnd2_val, PL.ev_or, PL.kOr_val, PL.kOr2_true, PL.kOr2_false, PL.kOr2_val, PL.ev_not, PL.kNot_val, PL.ev_ife, PL.kIfE_true, PL.kIfE_false, PL.ev_bof, PL.kB_val, PL.ev_tof, PL.kTo_val, PL.kTo_own, PL.kTo_bor, PL.kTo_full, PL.kTo_brf, PL.okB_some, PL.truth_bool, PL.truth_int, PL.truth_none, PL.truth_list, PL.truth_tuple, PL.ev_bnot, PL.kNotB_ok, PL.ev_band, PL.kAndB_ok, PL.kAndB2_true, PL.kAndB2_false, PL.kAndB2_ok, PL.ev_bor, PL.kOrB_ok, PL.kOrB2_true, PL.kOrB2_false, PL.kOrB2_ok, PL.ev_chain, PL.kCh_ok, PL.kCh2_false, PL.kCh2_true, PL.ev_fD, PL.kD2_some, PL.kS_int, PL.kS_bool, PL.kS_str, PL.kS_none, PL.ev_sub, PL.ev_addI, PL.ev_iadd, PL.ev_div, PL.ev_mod, PL.ev_pow, PL.ev_mulI, PL.ev_neg, PL.ev_eqI, PL.ev_neI, PL.ev_ltI, PL.ev_leI, PL.ev_gtI, PL.ev_geI, PL.ev_fD1, PL.kD1_some, PL.ev_int, PL.ev_intb, PL.ev_abs, PL.ev_lenL, PL.ev_lenT, PL.ev_fI2, PL.ev_catT, PL.ev_catVV, PL.ev_repV, PL.ev_list, PL.kLst_ok, PL.ev_tup, PL.kTup_ok, PL.kMk_some, PL.kMkT_some, PL.stors_nil, PL.stors_cons, PL.kSt_some, PL.stor_val, PL.ev_ixL, PL.ev_ixT, PL.ev_ixB, PL.atI_cast, PL.atI_0, PL.atI_1, PL.atI_2, PL.atI_3, PL.atI_4, PL.atI_5, PL.atI_6, PL.atI_7, PL.kSl_valT, PL.kSl_brfT, PL.ev_slice, PL.kSl_val, PL.kSl_own, PL.kSl_bor, PL.kSl_full, PL.ev_pN, PL.ev_pS, PL.kP_int, PL.ev_rev, PL.ev_ls, PL.ev_lsT, PL.ev_tl, PL.all_scal, PL.ev_sorted, PL.kSo_some, PL.ev_iL, PL.kIL_val, PL.kIL_own, PL.kIL_full, PL.ev_iR, PL.kR_1, PL.kR_2, PL.map_mkv_int, PL.mkI_eq, PL.rngI_eq, PL.mkN_eq, PL.ev_iR3, PL.kR3_ok, PL.rngC_eq, PL.mkC_eq, PL.ev_iM, PL.kM_ok, PL.kM2_some, PL.mkEn_val, PL.mkTp_val, PL.ev_iZp, PL.kZp_ok, PL.mkZp_val, PL.ev_lc, PL.kLc_ok, PL.kLcM_some, PL.wipeE_nil, PL.wipeE_cons, PL.ev_byes, PL.kE_val, PL.kE_own, PL.kE_full, PL.kEl_some, PL.kTl_some, PL.ev_appAt, PL.kAppAt_tuple, PL.kAppAt_list, PL.kAA_ok, PL.ev_andI, PL.ev_orI, PL.ev_shr, PL.ev_shl, PL.ev_raise, PL.ev_tryAs, PL.kTA_nx, PL.kTA_rt, PL.kTA_ex, PL.kTA2_true, PL.kTA2_false, PL.hOut_rt, PL.hOut_nx, PL.noEx_nil, PL.noEx_und, PL.noEx_val, PL.noEx_own, PL.noEx_full, PL.ev_isE, PL.kIE_ex, PL.kIE2_some, PL.ev_step, PL.ev_isNN, PL.ev_isBB, PL.ev_isLN, PL.ev_isTN, PL.ev_isIN, PL.ev_all, PL.ev_any, PL.ev_ixF, PL.ev_ixFL, PL.mkb_int, PL.mkb_bool, PL.mkb_list, PL.mkb_tuple, PL.kSet_cel, PL.ev_gfrzN, PL.kFrzN_nst, PL.ev_dnewI, PL.ev_doneI, PL.kDOneI_i, PL.kDOneI_b, PL.ev_din, PL.kDIn_ok, PL.ev_dget, PL.kDGet_ok, PL.kDG_some, PL.sv_di, PL.sv_db, PL.ev_dput, PL.kDPut_i, PL.kDPut_b, PL.ev_fz, PL.kFz_some, PL.fzR_int, PL.fzR_bool, PL.fzR_ex, PL.ev_pop, PL.kPop_some, PL.popL_snoc, PL.ev_try, PL.kTr_nx, PL.kTr_rt, PL.kTr_ex, PL.kTr2_true, PL.kTr2_false, PL.hOut0_rt, PL.hOut0_nx, PL.ev_callK, PL.kCallK_ok, PL.ev_isLT, PL.kIsLT_val, PL.isLT_list, PL.isLT_tuple, PL.isLT_int, PL.isLT_none, PL.isLT_bool, PL.ev_iS, PL.kIS_list, PL.kIS_tuple, PL.ev_try2, PL.kTry2_nx, PL.kTry2_rt, PL.kTry2_ex, PL.kCl_true, PL.kCl_false, PL.ev_forApp, PL.kFA_ok, PL.cd_true, PL.cd_false, reduceIte, Nat.reduceLT, Nat.reduceLeDiff, Nat.reduceAdd, Nat.reduceMul, Nat.reduceSub, Nat.reduceEqDiff, Int.reduceLT, Int.reduceLE, Int.reduceAdd, Int.reduceSub, Int.reduceMul, Int.reduceNeg, Int.reduceToNat, Int.reduceEq, Int.reduceAbs, Int.reducePow, Int.reduceDiv, Int.reduceMod, $args,*])
namespace PF
open PySem PySem.Spec PyProof.Rows L2 PL
noncomputable section
/-- drawn numbers stand below their limits -/
def Below : List Int → List Int → Prop
  | [], [] => True
  | r :: rs, l :: ls => 0 ≤ r ∧ r < l ∧ Below rs ls
  | _, _ => False
theorem Below.length : ∀ {rs ls : List Int}, Below rs ls → rs.length = ls.length
  | [], [], _ => rfl
  | _ :: _, _ :: _, h => congrArg (· + 1) h.2.2.length
  | [], _ :: _, h => h.elim
  | _ :: _, [], h => h.elim
/-- the last n digits of k, ahead of acc -/
def dgL (s : Int) : Nat → Int → List Int → List Int
  | 0, _, acc => acc
  | n + 1, k, acc => dgL s n (k / s) (k % s :: acc)
theorem dgL_len (s : Int) : ∀ (n : Nat) (k : Int) (acc : List Int), (dgL s n k acc).length = n + acc.length
  | 0, _, acc => by simp [dgL]
  | n + 1, k, acc => by rw [dgL, dgL_len s n, List.length_cons]; omega
theorem dgL_in {s : Int} (hs : 0 < s) : ∀ (n : Nat) (k : Int) (acc : List Int), (∀ c ∈ acc, 0 ≤ c ∧ c < s) → ∀ c ∈ dgL s n k acc, 0 ≤ c ∧ c < s
  | 0, _, acc, h => h
  | n + 1, k, acc, h => by
    rw [dgL]
    refine dgL_in hs n _ _ fun c hc => ?_
    rcases List.mem_cons.mp hc with e | e
    · rw [e]; exact ⟨Int.emod_nonneg _ (by omega), Int.emod_lt_of_pos _ hs⟩
    · exact h c e
def dig (s : Int) (w : Nat) (k : Int) : List Int := dgL s w k []
theorem dig_len (s : Int) (w : Nat) (k : Int) : (dig s w k).length = w := by unfold dig; rw [dgL_len]; rfl
theorem dig_in {s : Int} (hs : 0 < s) (w : Nat) (k : Int) : ∀ c ∈ dig s w k, 0 ≤ c ∧ c < s := dgL_in hs w k [] fun c hc => (by cases hc)
def idx (s : Int) (cs : List Int) : Int := cs.foldl (fun a c => a * s + c) 0
theorem flat_rep (n : Nat) (d : PyData) : (List.replicate n [d]).flatten = List.replicate n d := by
  induction n with
  | zero => rfl
  | succ n ih => rw [List.replicate_succ, List.flatten_cons, ih]; rfl
theorem Below.mem : ∀ {rs ls : List Int}, Below rs ls → ∀ r ∈ rs, ∃ l ∈ ls, 0 ≤ r ∧ r < l
  | [], [], _, r, h => by cases h
  | a :: rs, b :: ls, h, r, hr => by
    rcases List.mem_cons.mp hr with e | e
    · rw [e]; exact ⟨b, List.mem_cons_self, h.1, h.2.1⟩
    · obtain ⟨l, h1, h2⟩ := h.2.2.mem r e; exact ⟨l, List.mem_cons_of_mem _ h1, h2⟩
  | [], _ :: _, h, _, _ => h.elim
  | _ :: _, [], h, _, _ => h.elim
theorem Below.rep {rs : List Int} {n : Nat} {s : Int} (h : Below rs (List.replicate n s)) : rs.length = n ∧ ∀ r ∈ rs, 0 ≤ r ∧ r < s := by
  refine ⟨by rw [h.length, List.length_replicate], fun r hr => ?_⟩
  obtain ⟨l, h1, h2⟩ := h.mem r hr
  rw [List.eq_of_mem_replicate h1] at h2
  exact h2
theorem idx_bound {s : Int} (hs : 0 < s) : ∀ (cs : List Int) (a : Int) (n : Nat), 0 ≤ a → a < s ^ n → (∀ c ∈ cs, 0 ≤ c ∧ c < s) → 0 ≤ cs.foldl (fun a c => a * s + c) a ∧ cs.foldl (fun a c => a * s + c) a < s ^ (n + cs.length)
  | [], a, n, h0, h1, _ => ⟨h0, h1⟩
  | c :: cs, a, n, h0, h1, h => by
    have hc := h c List.mem_cons_self
    have := idx_bound hs cs (a * s + c) (n + 1) (by have := Int.mul_nonneg h0 (Int.le_of_lt hs); omega) (by
      rw [Int.pow_succ]
      have : (a + 1) * s ≤ s ^ n * s := Int.mul_le_mul_of_nonneg_right (by omega) (Int.le_of_lt hs)
      rw [Int.add_mul, Int.one_mul] at this
      omega) (fun d hd => h d (List.mem_cons_of_mem _ hd))
    rw [List.foldl_cons, List.length_cons, show n + (cs.length + 1) = n + 1 + cs.length by omega]
    exact this
theorem idx_lt {s : Int} (hs : 0 < s) {cs : List Int} (h : ∀ c ∈ cs, 0 ≤ c ∧ c < s) : 0 ≤ idx s cs ∧ idx s cs < s ^ cs.length := by
  have := idx_bound hs cs 0 0 (Int.le_refl _) (by simp) h
  rwa [Nat.zero_add] at this
theorem at_mem {xs : List Int} {k : Nat} (h : k < xs.length) : (xs.map PyData.int)[k]? = some (.int xs[k]) := by rw [List.getElem?_map, List.getElem?_eq_getElem h]; rfl
theorem cutD_nat {ds : List PyData} (a b : Nat) : PL.cutD ds (some (a : Int)) (some (b : Int)) = (ds.drop a).take (b - a) := by
  unfold PL.cutD
  rw [HT.sIx_nat, HT.sIx_nat]
  by_cases h : a ≤ ds.length
  · rw [Nat.min_eq_left h]
    by_cases h2 : b ≤ ds.length
    · rw [Nat.min_eq_left h2]
    · rw [Nat.min_eq_right (by omega), List.take_of_length_le (by rw [List.length_drop]; omega), List.take_of_length_le (by rw [List.length_drop]; omega)]
  · rw [show min a ds.length = ds.length by omega, List.drop_of_length_le (Nat.le_refl _), List.drop_of_length_le (by omega), List.take_nil, List.take_nil]
/-- a map's data -/
abbrev mapD (s : Nat) (o : Int) (w : Nat) (t : List Int) : PyData := .tuple [.int s, .int o, .int w, .list (t.map .int)]
structure VMap (s : Nat) (o : Int) (w : Nat) (t : List Int) : Prop where
  s2 : 2 ≤ s
  s4 : s ≤ 4
  o1 : -100 ≤ o
  o2 : o ≤ 100
  w1 : 1 ≤ w
  w6 : w ≤ 6
  len : t.length = s ^ w
  cell : ∀ c ∈ t, 0 ≤ c ∧ c < (s : Int)
theorem pow46 {s w : Nat} (hs : s ≤ 4) (hw : w ≤ 6) (h0 : 0 < s) : s ^ w ≤ 4096 := by
  have h1 : s ^ w ≤ s ^ 6 := Nat.pow_le_pow_right h0 hw
  have h2 : s ^ 6 ≤ 4 ^ 6 := Nat.pow_le_pow_left hs 6
  have h3 : (4 : Nat) ^ 6 = 4096 := by decide
  omega
/-- all windows of w cells -/
def wins (w : Nat) (xs : List Int) : List (List Int) := (List.range (xs.length + 1 - w)).map fun k => (xs.drop k).take w
def newC (s : Nat) (t : List Int) (ws : List Int) : Int := t.getD (idx s ws).toNat 0
def applyL (s w : Nat) (t xs : List Int) : List Int := (wins w xs).map (newC s t)
theorem cells_in {s : Int} {xs : List Int} (h : ∀ c ∈ xs, 0 ≤ c ∧ c < s) (a n : Nat) : ∀ c ∈ (xs.drop a).take n, 0 ≤ c ∧ c < s := fun c hc => h c (List.mem_of_mem_drop (List.mem_of_mem_take hc))
/-- a window's place in the table -/
theorem win_at {s w : Nat} {t ws : List Int} (hs : 0 < s) (ht : t.length = s ^ w) (hw : ws.length = w) (h : ∀ c ∈ ws, 0 ≤ c ∧ c < (s : Int)) : ∃ m : Nat, idx s ws = m ∧ (t.map PyData.int)[m]? = some (.int (newC s t ws)) := by
  have hsI : (0 : Int) < s := by omega
  have b := idx_lt hsI h
  obtain ⟨m, hm⟩ := Int.eq_ofNat_of_zero_le b.1
  have hl : m < t.length := by
    rw [ht, ← hw]
    have h1 := b.2
    rw [hm] at h1
    have h2 : (m : Int) < ((s ^ ws.length : Nat) : Int) := by rw [Int.natCast_pow]; exact h1
    omega
  refine ⟨m, hm, ?_⟩
  rw [at_mem hl]
  unfold newC
  rw [hm, Int.toNat_natCast, List.getD_eq_getElem?_getD, List.getElem?_eq_getElem hl]
  rfl
theorem win_len {w k : Nat} {xs : List Int} (h : k < xs.length + 1 - w) : ((xs.drop k).take w).length = w := by
  rw [List.length_take, List.length_drop]; omega
end
end PF
namespace PF
open PySem PySem.Spec PyProof.Rows L2 PL
noncomputable section
def B_number_of_1 : SF := (sSetZ 2 (e2 fAdd (e2 fMul (eVar 2) (eVar 0)) (eVar 3)))
def F_number_of : SF := (sSeq (sSetZ 2 (eC (.int 0)))
  (sSeq (sForD [3] (iL (eVar 1)) (gN 3)
  PF.B_number_of_1)
  (sRet (eVar 2))))
def f_number_of : FN := callF 4 F_number_of
theorem number_ok (cs : List Int) (s : Nat) (hs : s < 18446744073709551616) : f_number_of [.int s, .list (cs.map .int)] = some (.ret true (.int (idx s cs))) := by
  have hc : ∀ i : Int, cMul i s = true := fun i => cMul2 (by omega) (by omega)
  simp_arith only [f_number_of, F_number_of]
  refine forT_nx (fun l ρ => ∃ a : Int, l.foldl (fun (a c : Int) => a * s + c) a = idx s cs ∧ ρ = [.val true (.int s), .val false (.list (cs.map .int)), .val true (.int a), .und]) (fun o => kF (kSeq o _) = _) ⟨0, rfl, rfl⟩ ?_ ?_
  · rintro a l ρ ⟨n, e1, rfl⟩
    simp_arith only [B_number_of_1, mkI_eq, hc]
    exact ⟨_, rfl, _, e1, rfl⟩
  · rintro ρ ⟨n, e1, rfl⟩
    simp_arith only []
    rw [← e1]; rfl
def F_new_cell : SF := (sRet (e2 fIx (e2 fIx (eVar 0) (eC (.int 3))) (eCall PF.f_number_of [(e2 fIx (eVar 0) (eC (.int 0))), (eVar 1)])))
def f_new_cell : FN := callF 2 F_new_cell
theorem new_cell_ok {s w : Nat} {o : Int} {t ws : List Int} (hs : 0 < s) (hs' : s < 18446744073709551616) (ht : t.length = s ^ w) (hw : ws.length = w) (h : ∀ c ∈ ws, 0 ≤ c ∧ c < (s : Int)) : f_new_cell [mapD s o w t, .list (ws.map .int)] = some (.ret true (.int (newC s t ws))) := by
  obtain ⟨m, m1, m2⟩ := win_at hs ht hw h
  have n1 := number_ok ws s hs'
  rw [m1] at n1
  simp_arith only [f_new_cell, F_new_cell, atI_0, atI_3, n1, m2]
def C_apply_word_1 : EF := (eCall PF.f_new_cell [(eVar 0), (eSl (eVar 1) (pS (eVar 3)) (pS (e2 fAdd (eVar 3) (eVar 2))))])
def F_apply_word : SF := (sSeq (sSetZ 2 (e2 fIx (eVar 0) (eC (.int 2))))
  (sRet (eLc (iR [(e2 fAdd (e2 (fD gSub) (eCB (fD1 gLen) [(eVar 1)]) (eVar 2)) (eC (.int 1)))]) [3] (gN 3) bYes PF.C_apply_word_1)))
def f_apply_word : FN := callF 4 F_apply_word
theorem apply_word_ok {s w : Nat} {o : Int} {t xs : List Int} (hs : 0 < s) (hs' : s < 18446744073709551616) (ht : t.length = s ^ w) (hx : ∀ c ∈ xs, 0 ≤ c ∧ c < (s : Int)) (hl : xs.length < 16777216) (hw : w < 16777216) : f_apply_word [mapD s o w t, .list (xs.map .int)] = some (.ret true (.list ((applyL s w t xs).map .int))) := by
  have h6 : small62 ((xs.length : Int) - w + 1) = true := small62_ok (by omega) (by omega)
  have e1 : ((xs.length : Int) - w + 1 - 0).toNat = xs.length + 1 - w := by omega
  have key := lcL_map (t := gN 3) (elt := C_apply_word_1) (ρ := [.val false (mapD s o w t), .val false (.list (xs.map .int)), .val true (.int w), .und]) (mk := mkN 0) (r := fun k => .int (newC s t ((xs.drop k).take w))) (List.range (xs.length + 1 - w)) (fun k hk => by
    rw [List.mem_range] at hk
    have e2 : (k : Int) + w = ((k + w : Nat) : Int) := by omega
    have i1 := new_cell_ok (o := o) hs hs' ht (win_len hk) (cells_in hx k w)
    rw [List.map_take, List.map_drop] at i1
    simp_arith only [C_apply_word_1, mkN_eq, Int.zero_add, e2, cutD_nat, Nat.add_sub_cancel_left, i1])
  have e3 : ((List.range (xs.length + 1 - w)).map fun k => PyData.int (newC s t ((xs.drop k).take w))) = (applyL s w t xs).map .int := by
    unfold applyL wins
    rw [List.map_map, List.map_map]; rfl
  rw [e3] at key
  have z : (applyL s w t xs).length ≤ 16777216 := by
    unfold applyL wins
    rw [List.length_map, List.length_map, List.length_range]; omega
  simp_arith only [f_apply_word, F_apply_word, atI_2, h6, rngI_eq, e1, key, z]
theorem mapD_okR {s w : Nat} {o : Int} {t : List Int} (h : VMap s o w t) : okR (mapD s o w t) = true := by
  have h1 := h.s4; have h2 := h.w6; have h3 := h.o1; have h4 := h.o2
  have h5 : okRs (t.map .int) = true := okRs_ints fun c hc => by have := h.cell c hc; omega
  simp only [mapD, okR, okRs, h5, Bool.and_true, Bool.and_eq_true, decide_eq_true_eq]
  omega
theorem mapD_nn {s w : Nat} {o : Int} {t : List Int} : nn (mapD s o w t) = 42 * t.length + 129 := by
  simp only [mapD, nn, nns, nns_ints]; omega
theorem mapD_depth {s w : Nat} {o : Int} {t : List Int} : (mapD s o w t).depth = 2 := by
  simp only [mapD, PyData.depth, PyData.depthAll, depths_ints]; omega
theorem newC_in {s : Nat} {t : List Int} (hs : 0 < s) (h : ∀ c ∈ t, 0 ≤ c ∧ c < (s : Int)) (ws : List Int) : 0 ≤ newC s t ws ∧ newC s t ws < (s : Int) := by
  unfold newC
  rw [List.getD_eq_getElem?_getD]
  cases e : t[(idx s ws).toNat]? with
  | none => simp; omega
  | some c => exact h c (List.mem_of_getElem? e)
theorem apply_in {s w : Nat} {t xs : List Int} (hs : 0 < s) (h : ∀ c ∈ t, 0 ≤ c ∧ c < (s : Int)) : ∀ c ∈ applyL s w t xs, 0 ≤ c ∧ c < (s : Int) := fun c hc => by
  unfold applyL at hc
  obtain ⟨ws, -, rfl⟩ := List.mem_map.mp hc
  exact newC_in hs h ws
theorem apply_len (s w : Nat) (t xs : List Int) : (applyL s w t xs).length = xs.length + 1 - w := by
  unfold applyL wins
  rw [List.length_map, List.length_map, List.length_range]
end
end PF
namespace PF
open PySem PySem.Spec PyProof.Rows L2 PL
noncomputable section
def rep (m : Nat) (row : List Int) : List Int := (List.replicate m row).flatten
def IsPer (f : Int → Int) (p : Nat) : Prop := 0 < p ∧ ∀ i, f (i + p) = f i
theorem IsPer.mul {f : Int → Int} {p : Nat} (h : IsPer f p) : ∀ (k : Nat) (i : Int), f (i + (k * p : Nat)) = f i
  | 0, i => by simp
  | k + 1, i => by
    have e : i + ((k + 1) * p : Nat) = i + (k * p : Nat) + p := by rw [Nat.succ_mul]; omega
    rw [e, h.2, IsPer.mul h k]
theorem IsPer.mod {f : Int → Int} {p q : Nat} (hp : IsPer f p) (hq : IsPer f q) (h : 0 < p % q) : IsPer f (p % q) := by
  refine ⟨h, fun i => ?_⟩
  have e1 := hq.mul (p / q) (i + (p % q : Nat))
  have e2 : i + ((p % q : Nat) : Int) + ((p / q * q : Nat) : Int) = i + p := by
    have := Nat.div_add_mod' p q
    omega
  rw [e2, hp.2] at e1
  exact e1.symm
/-- the least period -/
def Least (f : Int → Int) (p : Nat) : Prop := IsPer f p ∧ ∀ q, IsPer f q → p ≤ q
theorem Least.eq {f : Int → Int} {p q : Nat} (h : Least f p) (h' : Least f q) : p = q := Nat.le_antisymm (h.2 _ h'.1) (h'.2 _ h.1)
theorem eqvs_ints : ∀ xs ys : List Int, PyData.eqvAll (xs.map .int) (ys.map .int) = decide (xs = ys)
  | [], [] => by simp [PyData.eqvAll]
  | [], _ :: _ => by simp [PyData.eqvAll]
  | _ :: _, [] => by simp [PyData.eqvAll]
  | x :: xs, y :: ys => by
    rw [List.map_cons, List.map_cons, PyData.eqvAll, eqvs_ints xs ys, PyData.eqv]
    by_cases h : x = y
    · subst h; simp
    · simp [h]
theorem gEq_ints2 (xs ys : List Int) : gEq (.list (xs.map .int)) (.list (ys.map .int)) = some (.bool (cd (xs = ys))) := by
  rw [gEq_n rfl, if_pos (by simp only [PyData.depth, depths_ints]; omega), PyData.eqv, eqvs_ints, cd_eq]
theorem cutD_to {ds : List PyData} (p : Nat) : PL.cutD ds none (some (p : Int)) = ds.take p := by
  unfold PL.cutD
  rw [HT.sIx_nat]
  show (ds.drop 0).take (min p ds.length - 0) = _
  rw [List.drop_zero, Nat.sub_zero]
  by_cases h : p ≤ ds.length
  · rw [Nat.min_eq_left h]
  · rw [Nat.min_eq_right (by omega), List.take_length, List.take_of_length_le (by omega)]
theorem range'_cons {a n b : Nat} {l : List Nat} (h : b :: l = List.range' a (n - a)) : b = a ∧ a < n ∧ l = List.range' (a + 1) (n - (a + 1)) := by
  by_cases hn : a < n
  · rw [show n - a = (n - (a + 1)) + 1 by omega, List.range'_succ] at h
    injection h with h1 h2
    exact ⟨h1, hn, h2⟩
  · rw [show n - a = 0 by omega] at h
    cases h
end
end PF
namespace PF
open PySem PySem.Spec PyProof.Rows L2 PL
noncomputable section
theorem dgL_app (s : Int) : ∀ (n : Nat) (k : Int) (acc : List Int), dgL s n k acc = dig s n k ++ acc
  | 0, _, _ => rfl
  | n + 1, k, acc => by
    unfold dig
    rw [dgL, dgL, dgL_app s n, dgL_app s n (k / s) [k % s], List.append_assoc]; rfl
theorem dig_succ (s : Int) (n : Nat) (k : Int) : dig s (n + 1) k = dig s n (k / s) ++ [k % s] := by
  rw [dig, dgL, dgL_app]
/-- cells -/
abbrev Ce (s : Nat) (c : Int) : Prop := 0 ≤ c ∧ c < (s : Int)
abbrev Cf (s : Nat) (x : Int → Int) : Prop := ∀ p, Ce s (x p)
/-- a window -/
def wx (x : Int → Int) (p : Int) (w : Nat) : List Int := (List.range w).map fun (j : Nat) => x (p + (j : Int))
/-- both maps do the same -/
def Sm (s : Nat) (o : Int) (w : Nat) (t : List Int) (o' : Int) (w' : Nat) (t' : List Int) : Prop := ∀ x, Cf s x → ∀ p, newC s t (wx x (p + o) w) = newC s t' (wx x (p + o') w')
theorem Sm.refl (s : Nat) (o : Int) (w : Nat) (t : List Int) : Sm s o w t o w t := fun _ _ _ => rfl
theorem Sm.symm {s : Nat} {o o' : Int} {w w' : Nat} {t t' : List Int} (h : Sm s o w t o' w' t') : Sm s o' w' t' o w t := fun x hx p => (h x hx p).symm
theorem Sm.trans {s : Nat} {o o' o'' : Int} {w w' w'' : Nat} {t t' t'' : List Int} (h : Sm s o w t o' w' t') (h' : Sm s o' w' t' o'' w'' t'') : Sm s o w t o'' w'' t'' := fun x hx p => (h x hx p).trans (h' x hx p)
end
end PF
namespace PF
open PySem PySem.Spec PyProof.Rows L2 PL
noncomputable section
structure PMap (s : Nat) (o : Int) (w : Nat) (t : List Int) : Prop where
  s2 : 2 ≤ s
  s4 : s ≤ 4
  o1 : -1000 ≤ o
  o2 : o ≤ 1000
  w1 : 1 ≤ w
  w6 : w ≤ 12
  len : t.length = s ^ w
  tl : t.length ≤ 4096
  cell : ∀ c ∈ t, 0 ≤ c ∧ c < (s : Int)
theorem PMap.pos {s w : Nat} {o : Int} {t : List Int} (v : PMap s o w t) : 0 < s ∧ s < 1073741824 ∧ s < 18446744073709551616 := by
  have a := v.s2; have b := v.s4
  omega
theorem cutD_from {ds : List PyData} (p : Nat) : PL.cutD ds (some (p : Int)) none = ds.drop p := by
  unfold PL.cutD
  rw [HT.sIx_nat]
  show (ds.drop (min p ds.length)).take (ds.length - min p ds.length) = _
  rw [List.take_of_length_le (by rw [List.length_drop]; omega)]
  by_cases h : p ≤ ds.length
  · rw [Nat.min_eq_left h]
  · rw [Nat.min_eq_right (by omega), List.drop_of_length_le (Nat.le_refl _), List.drop_of_length_le (by omega)]
end
end PF
namespace PF
open PySem PySem.Spec PyProof.Rows L2 PL
noncomputable section
def B_digits_of_1 : SF := (sSeq (sApp 3 (e2 (fD gMod) (eVar 1) (eVar 0)))
  (sSetZ 1 (e2 (fD gDiv) (eVar 1) (eVar 0))))
def F_digits_of : SF := (sSeq (sSet 3 (eList []))
  (sSeq (sForD [4] (iR [(eVar 2)]) (gN 4)
  PF.B_digits_of_1)
  (sFg [1] (sRet (e1 fRev (eVar 3))))))
def f_digits_of : FN := callF 5 F_digits_of
theorem ev_revB (fr : Bool) (ds : List PyData) : fRev (.bor fr (ds)) = some (.own (fr || ds.all PL.scal) ds.reverse) := rfl
theorem digits_of_ok (k : Int) (s w : Nat) (hs : 0 < s) (hs' : s < 1073741824) (hw : w < 1000000) : f_digits_of [.int s, .int k, .int w] = some (.ret true (.list ((dig s w k).map .int))) := by
  have h6 : small62 (w : Int) = true := small62_ok (by omega) (by omega)
  have h1 : (0 : Int) < s := by omega
  have h2 : (s : Int) < 1073741824 := by omega
  simp_arith only [f_digits_of, F_digits_of, h6, rngI_eq]
  refine forT_nx (fun l ρ => ∃ acc : List Int, ∃ r : Int, dgL s l.length r acc.reverse = dig s w k ∧ acc.length + l.length = w ∧ ρ = [.val true (.int s), .val true (.int r), .val true (.int w), .own true (acc.map .int), .und]) (fun o => kF (kSeq o _) = _) ⟨[], k, ?_, ?_, rfl⟩ ?_ ?_
  · rw [List.length_range, Int.sub_zero, Int.toNat_natCast]; rfl
  · rw [List.length_range, Int.sub_zero, Int.toNat_natCast]; simp
  · rintro a l ρ ⟨acc, r, e1, e2, rfl⟩
    rw [List.length_cons] at e1 e2
    have hz : acc.length < 16777216 := by omega
    simp_arith only [B_digits_of_1, h1, h2, hz]
    refine ⟨_, rfl, acc ++ [r % s], r / s, ?_, by rw [List.length_append]; simp; omega, ?_⟩
    · rw [List.reverse_append]; exact e1
    · rw [List.map_append]; rfl
  · rintro ρ ⟨acc, r, e1, e2, rfl⟩
    simp_arith only [all_scal, ev_revB, ← List.map_reverse]
    rw [← e1]; rfl
end
end PF
namespace PF
open PySem PySem.Spec PyProof.Rows L2 PL
noncomputable section
abbrev Ar := Int × Int × Int
/-- an arrow within -/
def ArIn (S N : Int) (a : Ar) : Prop := (0 ≤ a.1 ∧ a.1 < N) ∧ (0 ≤ a.2.1 ∧ a.2.1 < S) ∧ (0 ≤ a.2.2 ∧ a.2.2 < N)
end
end PF
namespace PF
open PySem PySem.Spec PyProof.Rows L2 PL
noncomputable section
/-- what may follow -/
def nx1 (A : List Ar) (P : Int → Prop) (c : Int) : Int → Prop := fun t => ∃ s, P s ∧ (s, c, t) ∈ A
theorem nx1_in {S N : Nat} {A : List Ar} (hA : ∀ a ∈ A, ArIn S N a) {P : Int → Prop} {c t : Int} (h : nx1 A P c t) : 0 ≤ t ∧ t < N := by
  obtain ⟨s, -, h⟩ := h
  exact (hA _ h).2.2
/-- a number that holds the set P -/
def Bits (N : Nat) (P : Int → Prop) (R : Nat) : Prop := R < 2 ^ N ∧ ∀ t : Nat, R.testBit t = true ↔ P t
theorem Bits.nx {S N : Nat} {A : List Ar} (hA : ∀ a ∈ A, ArIn S N a) {P : Int → Prop} {R R' : Nat} (h : Bits N P R) {c : Nat} {g : Nat → Nat} (hg : ∀ s t : Nat, (g s).testBit t = true ↔ ((s : Int), (c : Int), (t : Int)) ∈ A) (h' : ∀ t, R'.testBit t = true ↔ ∃ s, R.testBit s = true ∧ (g s).testBit t = true) : Bits N (nx1 A P c) R' := by
  have key : ∀ t : Nat, R'.testBit t = true ↔ nx1 A P c t := fun t => by
    rw [h']
    constructor
    · rintro ⟨s, h1, h2⟩
      exact ⟨s, (h.2 s).mp h1, (hg s t).mp h2⟩
    · rintro ⟨s, h1, h2⟩
      obtain ⟨s, rfl⟩ := Int.eq_ofNat_of_zero_le (hA _ h2).1.1
      exact ⟨s, (h.2 s).mpr h1, (hg s t).mpr h2⟩
  refine ⟨Nat.lt_pow_two_of_testBit _ fun t ht => ?_, key⟩
  rw [← Bool.not_eq_true, key]
  intro z
  have := (nx1_in hA z).2
  omega
end
end PF
namespace PF
open PySem PySem.Spec PyProof.Rows L2 PL
noncomputable section
theorem app_int (A : List Int) (x : Int) : A.map PyData.int ++ [.int x] = (A ++ [x]).map .int := by rw [List.map_append]; rfl
end
end PF
namespace PF
open PySem PySem.Spec PyProof.Rows L2 PL
noncomputable section
def F__law_cell_v1 : SF := (sSeq (sIf (bOf (e2 (fD gLt) (eVar 1) (eCB (fD1 gLen) [(eVar 0)])))
  (sRet (eCB (fD1 gAbs) [(eCB (fD1 gInt) [(e2 fIx (eVar 0) (eVar 1))])]))
  sNil)
  (sRet (eC (.int 0))))
def f__law_cell_v1 : FN := callF 2 F__law_cell_v1
theorem cell1_ok (ns : List Int) (k : Nat) : ∃ i : Nat, f__law_cell_v1 [.list (ns.map .int), .int k] = some (.ret true (.int (i : Nat))) := by
  by_cases h : (k : Int) < (ns.length : Nat)
  · have hk : k < ns.length := by omega
    have ha : (ns.map PyData.int)[k]? = some (.int ns[k]) := by rw [List.getElem?_map, List.getElem?_eq_getElem hk]; rfl
    simp_arith only [f__law_cell_v1, F__law_cell_v1, h, ha]
    refine ⟨ns[k].natAbs, ?_⟩
    congr 3
    split <;> omega
  · simp_arith only [f__law_cell_v1, F__law_cell_v1, h]
    exact ⟨0, rfl⟩
def B_count_words_1 : SF := (sSetZ 2 (e2 fMul (eVar 2) (eVar 0)))
def F_count_words : SF := (sSeq (sSetZ 2 (eC (.int 1)))
  (sSeq (sForD [3] (iR [(eVar 1)]) (gN 3)
  PF.B_count_words_1)
  (sRet (eVar 2))))
def f_count_words : FN := callF 4 F_count_words
theorem count_words_ok (s e : Nat) (hs : s < 18446744073709551616) (he : e < 4611686018427387904) : f_count_words [.int s, .int e] = some (.ret true (.int ((s ^ e : Nat) : Int))) := by
  have h6 : small62 (e : Int) = true := small62_ok (by omega) (by omega)
  have hc : ∀ i : Int, cMul i s = true := fun i => cMul2 (by omega) (by omega)
  simp_arith only [f_count_words, F_count_words, h6, rngI_eq]
  refine forT_nx (fun l ρ => ∃ n : Nat, n + l.length = e ∧ ρ = [.val true (.int s), .val true (.int e), .val true (.int ((s ^ n : Nat) : Int)), .und]) (fun o => kF (kSeq o _) = _) ⟨0, ?_, rfl⟩ ?_ ?_
  · rw [List.length_range]; omega
  · rintro a l ρ ⟨n, e1, rfl⟩
    simp_arith only [B_count_words_1, mkN_eq, hc]
    refine ⟨_, rfl, n + 1, by rw [List.length_cons] at e1; omega, ?_⟩
    rw [Nat.pow_succ, Int.natCast_mul]
  · rintro ρ ⟨n, e1, rfl⟩
    simp_arith only []
    rw [show n = e from e1]
def B__law_digits_v1_1 : SF := (sIf (tOf (eVar 4))
  (sSeq (sApp 3 (e2 (fD gMod) (eCB (fD1 gInt) [(eVar 0)]) (eVar 1)))
  (sSetZ 0 (e2 (fD gDiv) (eVar 0) (eVar 1))))
  (sApp 3 (e2 (fD gMod) (e2 (fD gMod) (eCB (fD1 gInt) [(e2 fAdd (e2 fAdd (e2 fMul (eVar 0) (eC (.int 48271))) (e2 fMul (e2 fMul (e2 fAdd (eVar 5) (eC (.int 1))) (e2 fAdd (eVar 5) (eC (.int 5)))) (eC (.int 69621)))) (e2 fMul (e2 (fD gDiv) (eVar 0) (eC (.int 97))) (eVar 5)))]) (eC (.int 2147483647))) (eVar 1))))
def F__law_digits_v1 : SF := (sSeq (sSet 3 (eList []))
  (sSeq (sSetZ 4 (e2 (fD gGe) (eVar 0) (e2 (fD gPow) (eC (.int 10)) (eC (.int 18)))))
  (sSeq (sForD [5] (iR [(eVar 2)]) (gN 5)
  PF.B__law_digits_v1_1)
  (sFg [0] (sRetOwn 3)))))
def f__law_digits_v1 : FN := callF 6 F__law_digits_v1
theorem digits2_ok (c : Int) (base most : Nat) (hb : 0 < base) (hb' : base < 1073741824) (hm : most < 16777216) : ∃ ds : List Int, f__law_digits_v1 [.int c, .int base, .int most] = some (.ret true (.list (ds.map .int))) ∧ ds.length = most ∧ ∀ d ∈ ds, 0 ≤ d ∧ d < (base : Int) := by
  have r1 : small62 (most : Int) = true := small62_ok (by omega) (by omega)
  have b0 : (0 : Int) < base := by omega
  have b1 : (base : Int) < 1073741824 := by omega
  simp_arith only [f__law_digits_v1, F__law_digits_v1, r1, rngI_eq, Int.sub_zero, Int.toNat_natCast]
  refine forT_nx (fun l ρ => ∃ (k : Nat) (c : Int) (b : Bool) (ds : List Int), l = List.range' k (most - k) ∧ k ≤ most ∧ ds.length = k ∧ (∀ d ∈ ds, 0 ≤ d ∧ d < (base : Int)) ∧ ρ = [.val true (.int c), .val true (.int base), .val true (.int most), .own true (ds.map .int), .val true (.bool b), .und]) (fun o => ∃ ds : List Int, kF (kSeq o (sFg [0] (sRetOwn 3))) = some (.ret true (.list (ds.map .int))) ∧ ds.length = most ∧ ∀ d ∈ ds, 0 ≤ d ∧ d < (base : Int)) ⟨0, c, _, [], List.range_eq_range', Nat.zero_le _, rfl, (fun d h => by cases h), rfl⟩ ?_ ?_
  · rintro k l ρ ⟨k', c, b, ds, g1, g2, g3, g4, rfl⟩
    obtain ⟨rfl, km, rfl⟩ := range'_cons g1
    have z : ds.length < 16777216 := by omega
    have snoc : ∀ x : Int, ∀ d ∈ ds ++ [x % base], 0 ≤ d ∧ d < (base : Int) := fun x d hd => by
      rcases List.mem_append.mp hd with hd | hd
      · exact g4 d hd
      · rw [List.mem_singleton.mp hd]; exact ⟨Int.emod_nonneg _ (by omega), Int.emod_lt_of_pos _ b0⟩
    have c1 : cMul c 48271 = true := cMul2 (by decide) (by decide)
    have c2 : cMul ((k : Int) + 1) ((k : Int) + 5) = true := cMul2 (by omega) (by omega)
    have c3 : ∀ x, cMul x 69621 = true := fun x => cMul2 (by decide) (by decide)
    have c4 : ∀ x, cMul x (k : Int) = true := fun x => cMul2 (by omega) (by omega)
    cases b with
    | true =>
      refine ⟨_, by simp_arith only [B__law_digits_v1_1, mkN_eq, Int.zero_add, b0, b1, z, app_int], k + 1, c / base, true, ds ++ [c % base], rfl, by omega, by rw [List.length_append, List.length_singleton, g3], snoc c, rfl⟩
    | false =>
      refine ⟨_, by simp_arith only [B__law_digits_v1_1, mkN_eq, Int.zero_add, b0, b1, z, app_int, c1, c2, c3, c4], k + 1, c, false, ds ++ [(c * 48271 + ((k : Int) + 1) * ((k : Int) + 5) * 69621 + c / 97 * (k : Int)) % 2147483647 % (base : Int)], rfl, by omega, by rw [List.length_append, List.length_singleton, g3], snoc _, rfl⟩
  · rintro ρ ⟨k, c, b, ds, g1, g2, g3, g4, rfl⟩
    have : most - k = 0 := by
      have := congrArg List.length g1
      rw [List.length_range', List.length_nil] at this
      exact this.symm
    exact ⟨ds, by simp_arith only [], by omega, g4⟩
end
end PF
namespace PF
open PySem PySem.Spec PyProof.Rows L2 PL
noncomputable section
theorem forT_app {α : Type} {tn : Sl → Ev → Option Out} {mk : α → Sl} {enc : List PyData → Ev} {g : α → List PyData} (N : Nat) : ∀ (l : List α) (b : List PyData), b.length + (l.flatMap g).length ≤ N → (∀ a ∈ l, ∀ b, b.length + (g a).length ≤ N → tn (mk a) (enc b) = some (.nx (enc (b ++ g a)))) → forT tn (l.map mk) (enc b) = some (.nx (enc (b ++ l.flatMap g)))
  | [], b, _, _ => by rw [List.flatMap_nil, List.append_nil]; rfl
  | a :: l, b, h, hs => by
    rw [List.flatMap_cons, List.length_append] at h
    rw [List.map_cons, forT, hs a List.mem_cons_self b (by omega)]
    show forT tn (l.map mk) (enc (b ++ g a)) = _
    rw [forT_app N l (b ++ g a) (by rw [List.length_append]; omega) fun a' ha => hs a' (List.mem_cons_of_mem _ ha), List.flatMap_cons, List.append_assoc]
abbrev wD (w : List Int) : PyData := .list (w.map .int)
def ext1 (s : Nat) (w : List Int) : List (List Int) := (List.range s).map fun (c : Nat) => w ++ [(c : Int)]
def wrd (s : Nat) : Nat → List (List Int)
  | 0 => [[]]
  | n + 1 => (wrd s n).flatMap (ext1 s)
theorem ext1_len (s : Nat) (w : List Int) : (ext1 s w).length = s := by unfold ext1; rw [List.length_map, List.length_range]
theorem flat_len {α β : Type} {g : α → List β} {k : Nat} : ∀ (l : List α), (∀ a ∈ l, (g a).length = k) → (l.flatMap g).length = l.length * k
  | [], _ => by rw [List.flatMap_nil, List.length_nil, List.length_nil, Nat.zero_mul]
  | a :: l, h => by rw [List.flatMap_cons, List.length_append, h a List.mem_cons_self, flat_len l fun b hb => h b (List.mem_cons_of_mem _ hb), List.length_cons, Nat.add_mul]; omega
theorem wrd_len (s : Nat) : ∀ n, (wrd s n).length = s ^ n
  | 0 => rfl
  | n + 1 => by rw [wrd, flat_len (k := s) _ fun a _ => ext1_len s a, wrd_len s n, Nat.pow_succ]
theorem wrd_in {s : Nat} : ∀ {n : Nat}, ∀ w ∈ wrd s n, w.length = n ∧ ∀ c ∈ w, 0 ≤ c ∧ c < (s : Int)
  | 0, w, h => by
    rw [wrd, List.mem_singleton] at h
    subst h
    exact ⟨rfl, fun c hc => nomatch hc⟩
  | n + 1, w, h => by
    rw [wrd, List.mem_flatMap] at h
    obtain ⟨v, hv, h⟩ := h
    obtain ⟨c, hc, rfl⟩ := List.mem_map.mp h
    obtain ⟨h1, h2⟩ := wrd_in v hv
    rw [List.mem_range] at hc
    refine ⟨by rw [List.length_append, h1]; rfl, fun x hx => ?_⟩
    rcases List.mem_append.mp hx with hx | hx
    · exact h2 x hx
    · rw [List.mem_singleton.mp hx]; omega
def B__law_words_1 : SF := (sApp 4 (e2 fAdd (eVar 5) (eList [(eVar 6)])))
def B__law_words_2 : SF := (sForD [6] (iR [(eVar 0)]) (gN 6)
  PF.B__law_words_1)
def B__law_words_3 : SF := (sSeq (sSet 4 (eList []))
  (sSeq (sForD [5, 6] (iL (eVar 2)) (gN 5)
  PF.B__law_words_2)
  (gh (gFrz 4) (sSetZ 2 (eVar 4)))))
def F__law_words : SF := (sSeq (sSetZ 2 (eList [(eList [])]))
  (sSeq (sForD [3, 4, 5, 6] (iR [(eVar 1)]) (gN 3)
  PF.B__law_words_3)
  (sRet (eVar 2))))
def f__law_words : FN := callF 7 F__law_words
theorem words_ok (s n : Nat) (hs : s ≤ 1000) (hn : n ≤ 1000) (hz : s ^ n ≤ 1000000) (s1 : 1 ≤ s) : f__law_words [.int s, .int n] = some (.ret true (.list ((wrd s n).map wD))) := by
  have r1 : small62 (n : Int) = true := small62_ok (by omega) (by omega)
  have r2 : small62 (s : Int) = true := small62_ok (by omega) (by omega)
  simp_arith only [f__law_words, F__law_words, r1, rngI_eq, Int.sub_zero, Int.toNat_natCast]
  refine forT_nx (fun l ρ => ∃ k : Nat, k + l.length = n ∧ ρ = [.val true (.int s), .val true (.int n), .val true (.list ((wrd s k).map wD)), .und, .und, .und, .und]) (fun o => kF (kSeq o _) = _) ⟨0, ?_, rfl⟩ ?_ ?_
  · rw [List.length_range]; omega
  · rintro a l ρ ⟨k, e1, rfl⟩
    rw [List.length_cons] at e1
    have zk : s ^ (k + 1) ≤ 1000000 := Nat.le_trans (Nat.pow_le_pow_right s1 (by omega)) hz
    have inner : ∀ w : List Int, w.length ≤ 1000 → ∀ b : List PyData, b.length + s ≤ 1000000 → forT (turn [6] (gN 6) B__law_words_1) ((List.range s).map (mkN 0)) [.val true (.int s), .val true (.int n), .val true (.list ((wrd s k).map wD)), .val true (.int ((0 : Int) + (a : Int))), .own true b, .val true (wD w), .und] = some (.nx [.val true (.int s), .val true (.int n), .val true (.list ((wrd s k).map wD)), .val true (.int ((0 : Int) + (a : Int))), .own true (b ++ (ext1 s w).map wD), .val true (wD w), .und]) := fun w hw b hb => by
      have zw : w.length + 1 ≤ 16777216 := by omega
      have := forT_app (tn := turn [6] (gN 6) B__law_words_1) (mk := mkN 0) (enc := fun b => [.val true (.int s), .val true (.int n), .val true (.list ((wrd s k).map wD)), .val true (.int ((0 : Int) + (a : Int))), .own true b, .val true (wD w), .und]) (g := fun c => [wD (w ++ [(c : Int)])]) 1000000 (List.range s) b (by rw [flat_len (k := 1) _ fun _ _ => rfl, List.length_range]; omega) fun c hc b hb => by
        have z : b.length < 16777216 := by simp only [List.length_cons, List.length_nil] at hb; omega
        simp_arith only [B__law_words_1, wD, mkN_eq, Int.zero_add, z, zw, List.map_append]
      have e4 : (List.range s).flatMap (fun (c : Nat) => [wD (w ++ [(c : Int)])]) = (ext1 s w).map wD := by
        unfold ext1
        rw [List.map_map]
        induction List.range s with
        | nil => rfl
        | cons x l ih => rw [List.flatMap_cons, ih]; rfl
      rw [e4] at this
      exact this
    have outer := forT_app (tn := turn [5, 6] (gN 5) B__law_words_2) (mk := fun w : List Int => Sl.val true (wD w)) (enc := fun b => [.val true (.int s), .val true (.int n), .val true (.list ((wrd s k).map wD)), .val true (.int ((0 : Int) + (a : Int))), .own true b, .und, .und]) (g := fun w => (ext1 s w).map wD) 1000000 (wrd s k) [] (by
      rw [flat_len (k := s) _ fun w _ => by rw [List.length_map, ext1_len], wrd_len, ← Nat.pow_succ, List.length_nil, Nat.zero_add]
      exact zk) fun w hw b hb => by
      rw [List.length_map, ext1_len] at hb
      have hl := (wrd_in w hw).1
      simp_arith only [B__law_words_2, r2, rngI_eq, Int.sub_zero, Int.toNat_natCast, inner w (by omega) b hb]
    have e2 : (wrd s k).flatMap (fun w => (ext1 s w).map wD) = (wrd s (k + 1)).map wD := by
      rw [wrd, List.map_flatMap]
    rw [e2, List.nil_append] at outer
    have e3 : ((wrd s k).map wD).map (mkv true) = (wrd s k).map fun w : List Int => Sl.val true (wD w) := by rw [List.map_map]; rfl
    refine ⟨[.val true (.int s), .val true (.int n), .val true (.list ((wrd s (k + 1)).map wD)), .und, .und, .und, .und], ?_, k + 1, by omega, rfl⟩
    simp_arith only [B__law_words_3, mkN_eq, e3, outer]
  · rintro ρ ⟨k, e1, rfl⟩
    rw [List.length_nil, Nat.add_zero] at e1
    subst e1
    simp_arith only []
def B__law_order_v1_1 : SF := (sSeq (sSetZ 6 (e2 (fD gMod) (eCB (fD1 gInt) [(eVar 1)]) (eCB (fD1 gLen) [(eVar 2)])))
  (sSeq (sSetZ 1 (e2 (fD gDiv) (eVar 1) (eCB (fD1 gLen) [(eVar 2)])))
  (sSeq (sApp 4 (e2 fIx (eVar 2) (eVar 6)))
  (sSetZ 2 (e2 fAdd (eSl (eVar 2) pN (pS (eVar 6))) (eSl (eVar 2) (pS (e2 fAdd (eVar 6) (eC (.int 1)))) pN))))))
def F__law_order_v1 : SF := (sSeq (sSetZ 2 (eLc (iR [(eVar 0)]) [3] (gN 3) bYes (eVar 3)))
  (sSeq (sSet 4 (eList []))
  (sSeq (sForD [5, 6] (iR [(eVar 0)]) (gN 5)
  PF.B__law_order_v1_1)
  (sFg [1, 2] (sRetOwn 4)))))
def f__law_order_v1 : FN := callF 7 F__law_order_v1
theorem order_ok (s : Nat) (d : Int) (hs : s ≤ 1000) : ∃ L : List Int, f__law_order_v1 [.int s, .int d] = some (.ret true (.list (L.map .int))) ∧ L.length = s ∧ ∀ c ∈ L, 0 ≤ c ∧ c < (s : Int) := by
  have r2 : small62 (s : Int) = true := small62_ok (by omega) (by omega)
  have key := lcL_map (t := gN 3) (elt := eVar 3) (ρ := [.val true (.int s), .val true (.int d), .und, .und, .und, .und, .und]) (mk := mkN 0) (r := fun (k : Nat) => .int (k : Int)) (List.range s) (fun k hk => by
    simp_arith only [mkN_eq, Int.zero_add])
  have z : s ≤ 16777216 := by omega
  simp_arith only [f__law_order_v1, F__law_order_v1, r2, rngI_eq, Int.sub_zero, Int.toNat_natCast, key, List.length_range, z]
  refine forT_nx (fun l ρ => ∃ (k : Nat) (d : Int) (R L : List Int), k + l.length = s ∧ L.length = k ∧ R.length = l.length ∧ (∀ c ∈ R, 0 ≤ c ∧ c < (s : Int)) ∧ (∀ c ∈ L, 0 ≤ c ∧ c < (s : Int)) ∧ ρ = [.val true (.int s), .val true (.int d), .val true (.list (R.map .int)), .und, .own true (L.map .int), .und, .und]) (fun o => ∃ L : List Int, kF (kSeq o (sFg [1, 2] (sRetOwn 4))) = some (.ret true (.list (L.map .int))) ∧ L.length = s ∧ ∀ c ∈ L, 0 ≤ c ∧ c < (s : Int)) ⟨0, d, (List.range s).map fun (k : Nat) => (k : Int), [], ?_, rfl, ?_, ?_, fun c hc => (nomatch hc), ?_⟩ ?_ ?_
  · rw [List.length_range]; omega
  · rw [List.length_map]
  · intro c hc
    obtain ⟨k, hk, rfl⟩ := List.mem_map.mp hc
    rw [List.mem_range] at hk
    omega
  · rw [List.map_map]; rfl
  · rintro a l ρ ⟨k, d, R, L, e1, e2, e3, e4, e5, rfl⟩
    rw [List.length_cons] at e1 e3
    obtain ⟨m, hm⟩ : ∃ m : Nat, d % ((R.length : Nat) : Int) = m := ⟨(d % ((R.length : Nat) : Int)).toNat, by have := Int.emod_nonneg d (b := ((R.length : Nat) : Int)) (by omega); omega⟩
    have hm' : m < R.length := by have := Int.emod_lt_of_pos d (b := ((R.length : Nat) : Int)) (by omega); omega
    have hat := at_mem hm'
    have zz : L.length < 16777216 := by omega
    have zt : (R.take m).length + (R.drop (m + 1)).length ≤ 16777216 := by rw [List.length_take, List.length_drop]; omega
    have rp : (0 : Int) < ((R.length : Nat) : Int) ∧ ((R.length : Nat) : Int) < 1073741824 := by omega
    have c1 : PL.cutD (R.map PyData.int) none (some (m : Int)) = (R.take m).map .int := by rw [cutD_to, List.map_take]
    have c2 : PL.cutD (R.map PyData.int) (some ((m : Int) + 1)) none = (R.drop (m + 1)).map .int := by rw [show (m : Int) + 1 = ((m + 1 : Nat) : Int) by omega, cutD_from, List.map_drop]
    refine ⟨[.val true (.int s), .val true (.int (d / ((R.length : Nat) : Int))), .val true (.list ((R.take m ++ R.drop (m + 1)).map .int)), .und, .own true ((L ++ [R[m]]).map .int), .und, .und], ?_, k + 1, d / ((R.length : Nat) : Int), R.take m ++ R.drop (m + 1), L ++ [R[m]], by omega, by rw [List.length_append, e2]; rfl, by rw [List.length_append, List.length_take, List.length_drop]; omega, fun c hc => ?_, fun c hc => ?_, rfl⟩
    · simp_arith only [B__law_order_v1_1, mkN_eq, rp, hm, atI_cast, hat, zz, zt, c1, c2, List.map_append]
    · rcases List.mem_append.mp hc with h | h
      · exact e4 c (List.mem_of_mem_take h)
      · exact e4 c (List.mem_of_mem_drop h)
    · rcases List.mem_append.mp hc with h | h
      · exact e5 c h
      · rw [List.mem_singleton.mp h]; exact e4 _ (List.getElem_mem _)
  · rintro ρ ⟨k, d, R, L, e1, e2, e3, e4, e5, rfl⟩
    simp_arith only []
    exact ⟨L, rfl, by rw [List.length_nil] at e1; omega, e5⟩
def B__law_new_1 : SF := (sSetZ 2 (e2 fAdd (e2 fMul (eVar 2) (e2 fIx (eVar 0) (eC (.int 0)))) (eVar 3)))
def F__law_new : SF := (sSeq (sSetZ 2 (eC (.int 0)))
  (sSeq (sForD [3] (iL (eVar 1)) (gN 3)
  PF.B__law_new_1)
  (sRet (e2 fIx (e2 fIx (eVar 0) (eC (.int 3))) (eVar 2)))))
def f__law_new : FN := callF 4 F__law_new
theorem new_ok {s w : Nat} {o : Int} {t ws : List Int} (hs : 0 < s) (hs' : s < 18446744073709551616) (ht : t.length = s ^ w) (hw : ws.length = w) (h : ∀ c ∈ ws, 0 ≤ c ∧ c < (s : Int)) : f__law_new [mapD s o w t, wD ws] = some (.ret true (.int (newC s t ws))) := by
  have hc : ∀ i : Int, cMul i s = true := fun i => cMul2 (by omega) (by omega)
  obtain ⟨m, m1, m2⟩ := win_at hs ht hw h
  simp_arith only [f__law_new, F__law_new]
  refine forT_nx (fun l ρ => ∃ a : Int, l.foldl (fun (a c : Int) => a * s + c) a = idx s ws ∧ ρ = [.val false (mapD s o w t), .val false (wD ws), .val true (.int a), .und]) (fun o => kF (kSeq o _) = _) ⟨0, rfl, rfl⟩ ?_ ?_
  · rintro a l ρ ⟨n, e1, rfl⟩
    simp_arith only [B__law_new_1, mkI_eq, hc, atI_0]
    exact ⟨_, rfl, _, e1, rfl⟩
  · rintro ρ ⟨n, e1, rfl⟩
    have e1 : n = idx s ws := e1
    subst e1
    simp_arith only [atI_3, m1, atI_cast, m2]
def C__law_word_1 : EF := (eCall PF.f__law_new [(eVar 0), (eSl (eVar 1) (pS (eVar 2)) (pS (e2 fAdd (eVar 2) (e2 fIx (eVar 0) (eC (.int 2))))))])
def F__law_word : SF := (sRet (eLc (iR [(e2 fAdd (e2 (fD gSub) (eCB (fD1 gLen) [(eVar 1)]) (e2 fIx (eVar 0) (eC (.int 2)))) (eC (.int 1)))]) [2] (gN 2) bYes PF.C__law_word_1))
def f__law_word : FN := callF 3 F__law_word
theorem word_ok {s w : Nat} {o : Int} {t xs : List Int} (hs : 0 < s) (hs' : s < 18446744073709551616) (ht : t.length = s ^ w) (hx : ∀ c ∈ xs, 0 ≤ c ∧ c < (s : Int)) (hl : xs.length < 16777216) (hw : w < 16777216) : f__law_word [mapD s o w t, wD xs] = some (.ret true (.list ((applyL s w t xs).map .int))) := by
  have h6 : small62 ((xs.length : Int) - w + 1) = true := small62_ok (by omega) (by omega)
  have e1 : ((xs.length : Int) - w + 1 - 0).toNat = xs.length + 1 - w := by omega
  have key := lcL_map (t := gN 2) (elt := C__law_word_1) (ρ := [.val false (mapD s o w t), .val false (.list (xs.map .int)), .und]) (mk := mkN 0) (r := fun k => .int (newC s t ((xs.drop k).take w))) (List.range (xs.length + 1 - w)) (fun k hk => by
    rw [List.mem_range] at hk
    have e2 : (k : Int) + w = ((k + w : Nat) : Int) := by omega
    have i1 := new_ok (o := o) hs hs' ht (win_len hk) (cells_in hx k w)
    rw [wD, List.map_take, List.map_drop] at i1
    simp_arith only [C__law_word_1, mkN_eq, Int.zero_add, atI_2, e2, cutD_nat, Nat.add_sub_cancel_left, i1])
  have e3 : ((List.range (xs.length + 1 - w)).map fun k => PyData.int (newC s t ((xs.drop k).take w))) = (applyL s w t xs).map .int := by
    unfold applyL wins
    rw [List.map_map, List.map_map]; rfl
  rw [e3] at key
  have z : (applyL s w t xs).length ≤ 16777216 := by
    unfold applyL wins
    rw [List.length_map, List.length_map, List.length_range]; omega
  simp_arith only [f__law_word, F__law_word, atI_2, h6, rngI_eq, e1, key, z]
end
end PF
namespace PF
open PySem PySem.Spec PyProof.Rows L2 PL
noncomputable section
structure MapOk (s : Nat) (o : Int) (w : Nat) (t : List Int) : Prop where
  v : VMap s o w t
  o1 : -3 ≤ o
  o2 : o ≤ 3
  w4 : w ≤ 4
  sz : s ^ w ≤ 64
theorem two_cells {w : List Int} (h : w.length = 2) : ∃ a b, w = [a, b] := by
  match w, h with
  | [a, b], _ => exact ⟨a, b, rfl⟩
theorem three_cells {w : List Int} (h : w.length = 3) : ∃ a b c, w = [a, b, c] := by
  match w, h with
  | [a, b, c], _ => exact ⟨a, b, c, rfl⟩
def C__law_partial_1 : EF := (e2 fAdd (e2 fMul (eC (.int 2)) (e2 (fD gDiv) (e2 fIx (eVar 2) (eC (.int 0))) (eC (.int 2)))) (e2 (fD gMod) (e2 fIx (eVar 2) (eC (.int 1))) (eC (.int 2))))
def F__law_partial : SF := (sSeq (sSetZ 1 (eLc (iL (eCall PF.f__law_words [(eC (.int 4)), (eC (.int 2))])) [2] (gN 2) bYes PF.C__law_partial_1))
  (sSeq (sSetZ 3 (eCall PF.f__law_order_v1 [(eC (.int 4)), (eVar 0)]))
  (sRet (eTup [(eC (.int 4)), (e2 (fD gSub) (e2 (fD gMod) (e2 (fD gDiv) (eVar 0) (eC (.int 24))) (eC (.int 3))) (eC (.int 1))), (eC (.int 2)), (eLc (iL (eVar 1)) [4] (gN 4) bYes (e2 fIx (eVar 3) (eVar 4)))]))))
def f__law_partial : FN := callF 5 F__law_partial
theorem partial_ok (d : Int) : ∃ (o : Int) (t : List Int), f__law_partial [.int d] = some (.ret true (mapD 4 o 2 t)) ∧ MapOk 4 o 2 t ∧ -1 ≤ o ∧ o ≤ 1 := by
  have w1 := words_ok 4 2 (by decide) (by decide) (by decide) (by decide)
  obtain ⟨L, l1, l2, l3⟩ := order_ok 4 d (by decide)
  obtain ⟨T, t1, t2, t3⟩ := lcL_ints (t := gN 2) (elt := C__law_partial_1) (ρ := [.val true (.int d), .und, .und, .und, .und]) (mk := fun w : List Int => Sl.val true (wD w)) (Q := fun i => 0 ≤ i ∧ i < 4) (wrd 4 2) (fun w hw => by
    obtain ⟨h1, h2⟩ := wrd_in w hw
    obtain ⟨a, b, rfl⟩ := two_cells h1
    have ha := h2 a (by simp)
    have hb := h2 b (by simp)
    refine ⟨2 * (a / 2) + b % 2, ?_, by omega⟩
    have cm : cMul 2 (a / 2) = true := cMul1 (by decide) (by decide)
    simp_arith only [C__law_partial_1, cm, atI_0, atI_1])
  have e3 : ((wrd 4 2).map wD).map (mkv true) = (wrd 4 2).map fun w : List Int => Sl.val true (wD w) := by rw [List.map_map]; rfl
  have z1 : T.length ≤ 16777216 := by rw [t2, wrd_len]; decide
  obtain ⟨U, u1, u2, u3⟩ := lcL_ints (t := gN 4) (elt := e2 fIx (eVar 3) (eVar 4)) (ρ := [.val true (.int d), .val true (.list (T.map .int)), .und, .val true (.list (L.map .int)), .und]) (mk := mkI) (Q := fun i => 0 ≤ i ∧ i < 4) T (fun i hi => by
    obtain ⟨h1, h2⟩ := t3 i hi
    obtain ⟨m, rfl⟩ := Int.eq_ofNat_of_zero_le h1
    have hm : m < L.length := by omega
    have ha := at_mem hm
    refine ⟨L[m], ?_, l3 _ (List.getElem_mem _)⟩
    simp_arith only [mkI_eq, atI_cast, ha])
  have z2 : U.length ≤ 16777216 := by omega
  have l1' : f__law_order_v1 [.int 4, .int d] = some (.ret true (.list (L.map .int))) := l1
  have w1' : f__law_words [.int 4, .int 2] = some (.ret true (.list ((wrd 4 2).map wD))) := w1
  have g1 : 0 ≤ d / 24 % 3 ∧ d / 24 % 3 < 3 := ⟨Int.emod_nonneg _ (by decide), Int.emod_lt_of_pos _ (by decide)⟩
  have ul : U.length = 16 := by rw [u2, t2, wrd_len]
  refine ⟨d / 24 % 3 - 1, U, ?_, ⟨⟨by decide, by decide, by omega, by omega, by decide, by decide, by rw [ul], u3⟩, by omega, by omega, by decide, by decide⟩, by omega, by omega⟩
  simp_arith only [f__law_partial, F__law_partial, w1', e3, t1, z1, l1', u1, z2]
  rfl
def C__law_after_v1_1 : EF := (eCall PF.f__law_new [(eVar 1), (eCall PF.f__law_word [(eVar 0), (eVar 4)])])
def F__law_after_v1 : SF := (sSeq (sSetZ 2 (e2 (fD gSub) (e2 fAdd (e2 fIx (eVar 0) (eC (.int 2))) (e2 fIx (eVar 1) (eC (.int 2)))) (eC (.int 1))))
  (sSeq (sSetZ 3 (eLc (iL (eCall PF.f__law_words [(e2 fIx (eVar 0) (eC (.int 0))), (eVar 2)])) [4] (gN 4) bYes PF.C__law_after_v1_1))
  (sRet (eTup [(e2 fIx (eVar 0) (eC (.int 0))), (e2 fAdd (e2 fIx (eVar 0) (eC (.int 1))) (e2 fIx (eVar 1) (eC (.int 1)))), (eVar 2), (eVar 3)]))))
def f__law_after_v1 : FN := callF 5 F__law_after_v1
theorem after_ok {s w w' : Nat} {o o' : Int} {t t' : List Int} (hs : 2 ≤ s) (hs' : s ≤ 4) (ht : t.length = s ^ w) (ht' : t'.length = s ^ w') (hc : ∀ c ∈ t, 0 ≤ c ∧ c < (s : Int)) (hc' : ∀ c ∈ t', 0 ≤ c ∧ c < (s : Int)) (w1 : 1 ≤ w) (w1' : 1 ≤ w') (wz : w ≤ 100) (wz' : w' ≤ 100) (hz : s ^ (w + w' - 1) ≤ 1000000) : ∃ T : List Int, f__law_after_v1 [mapD s o w t, mapD s o' w' t'] = some (.ret true (mapD s (o + o') (w + w' - 1 : Nat) T)) ∧ T.length = s ^ (w + w' - 1) ∧ ∀ c ∈ T, 0 ≤ c ∧ c < (s : Int) := by
  have wo := words_ok s (w + w' - 1) (by omega) (by omega) hz (by omega)
  have ew : (w : Int) + w' - 1 = ((w + w' - 1 : Nat) : Int) := by omega
  obtain ⟨T, t1, t2, t3⟩ := lcL_ints (t := gN 4) (elt := C__law_after_v1_1) (ρ := [.val false (mapD s o w t), .val false (mapD s o' w' t'), .val true (.int ((w + w' - 1 : Nat) : Int)), .und, .und]) (mk := fun w : List Int => Sl.val true (wD w)) (Q := fun i => 0 ≤ i ∧ i < (s : Int)) (wrd s (w + w' - 1)) (fun v hv => by
    obtain ⟨h1, h2⟩ := wrd_in v hv
    have a1 := word_ok (o := o) (w := w) (by omega) (by omega) ht h2 (by omega) (by omega)
    have a2 := new_ok (o := o') (ws := applyL s w t v) (by omega) (by omega) ht' (by rw [apply_len]; omega) (apply_in (by omega) hc)
    refine ⟨newC s t' (applyL s w t v), ?_, newC_in (by omega) hc' _⟩
    simp_arith only [C__law_after_v1_1, a1, a2])
  have e3 : ((wrd s (w + w' - 1)).map wD).map (mkv true) = (wrd s (w + w' - 1)).map fun w : List Int => Sl.val true (wD w) := by rw [List.map_map]; rfl
  have z1 : T.length ≤ 16777216 := by rw [t2, wrd_len]; omega
  refine ⟨T, ?_, by rw [t2, wrd_len], t3⟩
  simp_arith only [f__law_after_v1, F__law_after_v1, atI_0, atI_1, atI_2, ew, wo, e3, t1, z1]
def C__law_map_v1_1 : EF := (e2 (fD gMod) (e2 fIx (eVar 3) (eVar 9)) (eVar 6))
def B__law_map_v1_2 : SF := (sSeq (sSetZ 12 (eIf (bOf (e2 (fD gEq) (eVar 4) (eC (.int 3)))) (eSl (eVar 11) (pS (eC (.int 1))) pN) (eSl (eVar 11) pN (pS (eC (.int 2))))))
  (sSeq (sSetZ 13 (eIf (bOf (e2 (fD gEq) (eVar 4) (eC (.int 3)))) (e2 fIx (eVar 11) (eC (.int 0))) (e2 fIx (eVar 11) (eC (.int 2)))))
  (sSeq (sSetZ 14 (eCall PF.f__law_order_v1 [(eVar 6), (e2 fIx (eVar 3) (e2 fAdd (e2 fMul (e2 fIx (eVar 12) (eC (.int 0))) (eVar 6)) (e2 fIx (eVar 12) (eC (.int 1)))))]))
  (sApp 10 (e2 fIx (eVar 14) (eVar 13))))))
def C__law_map_v1_3 : EF := (e2 fIx (eVar 14) (e2 fIx (eVar 11) (eC (.int 0))))
def K__law_map_v1_4 : SF := (sSeq (sIf (bOf (e2 (fD gLt) (eVar 4) (eC (.int 3))))
  (sSeq (sSetZ 8 (eCall PF.f__law_words [(eVar 6), (eVar 7)]))
  (sRet (eTup [(eVar 6), (eVar 5), (eVar 7), (eLc (iR [(eCB (fD1 gLen) [(eVar 8)])]) [9] (gN 9) bYes PF.C__law_map_v1_1)])))
  sNil)
  (sSeq (sIf (bOr (bOf (e2 (fD gEq) (eVar 4) (eC (.int 3)))) (bOf (e2 (fD gEq) (eVar 4) (eC (.int 4)))))
  (sSeq (sSet 10 (eList []))
  (sSeq (sForD [11, 12, 13, 14] (iL (eCall PF.f__law_words [(eVar 6), (eC (.int 3))])) (gN 11)
  PF.B__law_map_v1_2)
  (gh (gFrz 10) (sRet (eTup [(eVar 6), (eVar 5), (eC (.int 3)), (eVar 10)])))))
  sNil)
  (sSeq (sIf (bOf (e2 (fD gEq) (eVar 4) (eC (.int 5))))
  (sSeq (sSetZ 14 (eCall PF.f__law_order_v1 [(eVar 6), (e2 fIx (eVar 3) (eC (.int 0)))]))
  (sRet (eTup [(eVar 6), (eVar 5), (eVar 7), (eLc (iL (eCall PF.f__law_words [(eVar 6), (eVar 7)])) [11] (gN 11) bYes PF.C__law_map_v1_3)])))
  sNil)
  (sSeq (sSetZ 15 (eCall PF.f__law_partial [(e2 fIx (eVar 3) (eC (.int 0)))]))
  (sSeq (sIf (bOf (e2 (fD gEq) (eVar 4) (eC (.int 7))))
  (sSeq (sSetZ 16 (eCall PF.f__law_partial [(e2 fIx (eVar 3) (eC (.int 1)))]))
  (sSeq (sIf (bOf (e2 (fD gEq) (e2 (fD gMod) (e2 fIx (eVar 3) (eC (.int 2))) (eC (.int 2))) (eC (.int 1))))
  (sSetZ 16 (eTup [(eC (.int 4)), (eC (.int 0)), (eC (.int 1)), (eCall PF.f__law_order_v1 [(eC (.int 4)), (e2 fIx (eVar 3) (eC (.int 1)))])]))
  sNil)
  (sSetZ 15 (eCall PF.f__law_after_v1 [(eVar 15), (eVar 16)]))))
  sNil)
  (sRet (eVar 15)))))))
def K__law_map_v1_5 : SF := (sSeq (sIf (bAnd (bOf (e2 (fD gGt) (eVar 6) (eC (.int 3)))) (bOr (bOf (e2 (fD gEq) (eVar 4) (eC (.int 3)))) (bOf (e2 (fD gEq) (eVar 4) (eC (.int 4))))))
  (sSetZ 6 (eC (.int 3)))
  sNil)
  PF.K__law_map_v1_4)
def F__law_map_v1 : SF := (sSeq (sSetZ 2 (eCall PF.f__law_digits_v1 [(eVar 0), (eC (.int 2520)), (eC (.int 5))]))
  (sSeq (sSetZ 3 (eCall PF.f__law_digits_v1 [(eVar 1), (eC (.int 5040)), (eC (.int 81))]))
  (sSeq (sSetZ 4 (e2 (fD gMod) (e2 fIx (eVar 2) (eC (.int 0))) (eC (.int 8))))
  (sSeq (sSetZ 5 (e2 (fD gSub) (e2 (fD gMod) (e2 fIx (eVar 2) (eC (.int 1))) (eC (.int 7))) (eC (.int 3))))
  (sSeq (sSetZ 6 (e2 fAdd (eC (.int 2)) (e2 (fD gMod) (e2 fIx (eVar 2) (eC (.int 2))) (eC (.int 3)))))
  (sSeq (sSetZ 7 (e2 fAdd (eC (.int 1)) (e2 (fD gMod) (e2 fIx (eVar 2) (eC (.int 3))) (eC (.int 4)))))
  (sSeq (sIf (bOf (e2 (fD gGt) (eVar 6) (eC (.int 2))))
  (sSetZ 7 (e2 fAdd (eC (.int 1)) (e2 (fD gMod) (e2 fIx (eVar 2) (eC (.int 3))) (e2 (fD gSub) (eC (.int 6)) (eVar 6)))))
  sNil)
  PF.K__law_map_v1_5)))))))
def f__law_map_v1 : FN := callF 17 F__law_map_v1
abbrev mt4 (x0 x1 x2 : Sl) (D : List Int) (way o : Int) (s w : Nat) : Ev := [x0, x1, x2, .val true (.list (D.map .int)), .val true (.int way), .val true (.int o), .val true (.int s), .val true (.int w), .und, .und, .und, .und, .und, .und, .und, .und, .und]
theorem map1_tail (x0 x1 x2 : Sl) {D : List Int} (hD : D.length = 81) {way o : Int} {s w : Nat} (y0 : 0 ≤ way) (y8 : way < 8) (s2 : 2 ≤ s) (s4 : s ≤ 4) (s3 : way = 3 ∨ way = 4 → s ≤ 3) (w1 : 1 ≤ w) (w4 : w ≤ 4) (hz : s ^ w ≤ 64) (o1 : -3 ≤ o) (o2 : o ≤ 3) : ∃ (s' : Nat) (o' : Int) (w' : Nat) (t' : List Int), kF (K__law_map_v1_4 (mt4 x0 x1 x2 D way o s w)) = some (.ret true (mapD s' o' w' t')) ∧ MapOk s' o' w' t' := by
  have wo := words_ok s w (by omega) (by omega) (by omega) (by omega)
  have d0 := at_mem (xs := D) (k := 0) (by omega)
  have d1 := at_mem (xs := D) (k := 1) (by omega)
  have d2 := at_mem (xs := D) (k := 2) (by omega)
  have sz : (s : Int) ≠ 0 := by omega
  by_cases c1 : way < 3
  · have r1 : small62 ((s ^ w : Nat) : Int) = true := small62_ok (by omega) (by omega)
    obtain ⟨T, t1, t2, t3⟩ := lcL_ints (t := gN 9) (elt := C__law_map_v1_1) (ρ := [x0, x1, x2, .val true (.list (D.map .int)), .val true (.int way), .val true (.int o), .val true (.int s), .val true (.int w), .val true (.list ((wrd s w).map wD)), .und, .und, .und, .und, .und, .und, .und, .und]) (mk := mkN 0) (Q := fun i => 0 ≤ i ∧ i < (s : Int)) (List.range (s ^ w)) (fun k hk => by
      rw [List.mem_range] at hk
      have dk := at_mem (xs := D) (k := k) (by omega)
      refine ⟨D[k] % (s : Int), ?_, Int.emod_nonneg _ sz, Int.emod_lt_of_pos _ (by omega)⟩
      have sp : (0 : Int) < s ∧ (s : Int) < 1073741824 := by omega
      simp_arith only [C__law_map_v1_1, mkN_eq, Int.zero_add, atI_cast, dk, sp])
    rw [List.length_range] at t2
    have z1 : T.length ≤ 16777216 := by omega
    refine ⟨s, o, w, T, ?_, ⟨s2, s4, by omega, by omega, w1, by omega, t2, t3⟩, o1, o2, w4, hz⟩
    simp_arith only [K__law_map_v1_4, mt4, c1, wo, wrd_len, r1, rngI_eq, Int.sub_zero, Int.toNat_natCast, t1, z1]
  by_cases c2 : way = 3 ∨ way = 4
  · have s3 := s3 c2
    have z27 : s ^ 3 ≤ 27 := Nat.pow_le_pow_left s3 3
    have wo3 : f__law_words [.int s, .int 3] = some (.ret true (.list ((wrd s 3).map wD))) := words_ok s 3 (by omega) (by omega) (by omega) (by omega)
    have e3 : ((wrd s 3).map wD).map (mkv true) = (wrd s 3).map fun w : List Int => Sl.val true (wD w) := by rw [List.map_map]; rfl
    have step : ∀ v ∈ wrd s 3, ∀ T : List Int, T.length < 100 → ∃ c : Int, (0 ≤ c ∧ c < (s : Int)) ∧ turn [11, 12, 13, 14] (gN 11) B__law_map_v1_2 (.val true (wD v)) [x0, x1, x2, .val true (.list (D.map .int)), .val true (.int way), .val true (.int o), .val true (.int s), .val true (.int w), .und, .und, .own true (T.map .int), .und, .und, .und, .und, .und, .und] = some (.nx [x0, x1, x2, .val true (.list (D.map .int)), .val true (.int way), .val true (.int o), .val true (.int s), .val true (.int w), .und, .und, .own true ((T ++ [c]).map .int), .und, .und, .und, .und, .und, .und]) := fun v hv T hT => by
      obtain ⟨h1, h2⟩ := wrd_in v hv
      obtain ⟨a, b, c, rfl⟩ := three_cells h1
      have ha := h2 a (by simp)
      have hb := h2 b (by simp)
      have hc := h2 c (by simp)
      have m16 : ∀ p q : Int, 0 ≤ p → p < s → 0 ≤ q → q < s → 0 ≤ p * s + q ∧ p * s + q < 16 := fun p q p0 p1 q0 q1 => by
        have l1 : p * s ≤ ((s : Int) - 1) * s := Int.mul_le_mul_of_nonneg_right (by omega) (by omega)
        have l2 : 0 ≤ p * s := Int.mul_nonneg p0 (by omega)
        have l3 : ((s : Int) - 1) * s ≤ 6 := by
          have : s = 2 ∨ s = 3 := by omega
          rcases this with rfl | rfl <;> decide
        omega
      have cm : ∀ i : Int, cMul i s = true := fun i => cMul2 (by omega) (by omega)
      have zT : T.length < 16777216 := by omega
      by_cases c3 : way = 3
      · obtain ⟨k, hk⟩ := Int.eq_ofNat_of_zero_le (m16 b c hb.1 hb.2 hc.1 hc.2).1
        have hk' := (m16 b c hb.1 hb.2 hc.1 hc.2).2
        have dk := at_mem (xs := D) (k := k) (by omega)
        obtain ⟨L, l1, l2, l3⟩ := order_ok s D[k] (by omega)
        obtain ⟨m, rfl⟩ := Int.eq_ofNat_of_zero_le ha.1
        have lm := at_mem (xs := L) (k := m) (by omega)
        have c23 : PL.cutD [PyData.int m, .int b, .int c] (some 1) none = [.int b, .int c] := cutD_from 1
        refine ⟨L[m], l3 _ (List.getElem_mem _), ?_⟩
        simp_arith only [B__law_map_v1_2, c3, c23, atI_0, atI_1, cm, hk, atI_cast, dk, l1, lm, zT, List.map_append]
      · obtain ⟨k, hk⟩ := Int.eq_ofNat_of_zero_le (m16 a b ha.1 ha.2 hb.1 hb.2).1
        have hk' := (m16 a b ha.1 ha.2 hb.1 hb.2).2
        have dk := at_mem (xs := D) (k := k) (by omega)
        obtain ⟨L, l1, l2, l3⟩ := order_ok s D[k] (by omega)
        obtain ⟨m, rfl⟩ := Int.eq_ofNat_of_zero_le hc.1
        have lm := at_mem (xs := L) (k := m) (by omega)
        have c23 : PL.cutD [PyData.int a, .int b, .int m] none (some 2) = [.int a, .int b] := cutD_to 2
        refine ⟨L[m], l3 _ (List.getElem_mem _), ?_⟩
        simp_arith only [B__law_map_v1_2, c3, c23, atI_0, atI_1, atI_2, cm, hk, atI_cast, dk, l1, lm, zT, List.map_append]
    have loop := forT_nx (tn := turn [11, 12, 13, 14] (gN 11) B__law_map_v1_2) (mk := fun w : List Int => Sl.val true (wD w)) (l := wrd s 3) (ρ := [x0, x1, x2, .val true (.list (D.map .int)), .val true (.int way), .val true (.int o), .val true (.int s), .val true (.int w), .und, .und, .own true [], .und, .und, .und, .und, .und, .und]) (fun l ρ => ∃ T : List Int, T.length + l.length = s ^ 3 ∧ (∀ v ∈ l, v ∈ wrd s 3) ∧ (∀ c ∈ T, 0 ≤ c ∧ c < (s : Int)) ∧ ρ = [x0, x1, x2, .val true (.list (D.map .int)), .val true (.int way), .val true (.int o), .val true (.int s), .val true (.int w), .und, .und, .own true (T.map .int), .und, .und, .und, .und, .und, .und]) (fun r => ∃ T : List Int, T.length = s ^ 3 ∧ (∀ c ∈ T, 0 ≤ c ∧ c < (s : Int)) ∧ r = some (.nx [x0, x1, x2, .val true (.list (D.map .int)), .val true (.int way), .val true (.int o), .val true (.int s), .val true (.int w), .und, .und, .own true (T.map .int), .und, .und, .und, .und, .und, .und])) ⟨[], by rw [wrd_len, List.length_nil]; omega, fun v hv => hv, fun c hc => (nomatch hc), rfl⟩ (by
      rintro v l ρ ⟨T, e1, e2, e4, rfl⟩
      rw [List.length_cons] at e1
      obtain ⟨c, hc, go⟩ := step v (e2 v List.mem_cons_self) T (by omega)
      refine ⟨_, go, T ++ [c], by rw [List.length_append]; show T.length + 1 + _ = _; omega, fun v hv => e2 v (List.mem_cons_of_mem _ hv), fun x hx => ?_, rfl⟩
      rcases List.mem_append.mp hx with h | h
      · exact e4 x h
      · rw [List.mem_singleton.mp h]; exact hc) (by
      rintro ρ ⟨T, e1, e2, e4, rfl⟩
      exact ⟨T, by rw [List.length_nil] at e1; omega, e4, rfl⟩)
    obtain ⟨T, t1, t2, go⟩ := loop
    refine ⟨s, o, 3, T, ?_, ⟨s2, s4, by omega, by omega, by decide, by decide, t1, t2⟩, o1, o2, by decide, by omega⟩
    have c2' : cd (way = 3) = true ∨ cd (way = 4) = true := c2.imp cd_true cd_true
    have c2'' : (cd (way = 3) || cd (way = 4)) = true := by rw [Bool.or_eq_true]; exact c2'
    rcases c2 with c2 | c2
    · subst c2
      simp_arith only [K__law_map_v1_4, mt4, wo3, e3, go]
      rfl
    · subst c2
      simp_arith only [K__law_map_v1_4, mt4, wo3, e3, go]
      rfl
  have c23 : ¬ way = 3 := fun h => c2 (.inl h)
  have c24 : ¬ way = 4 := fun h => c2 (.inr h)
  by_cases c5 : way = 5
  · obtain ⟨L, l1, l2, l3⟩ := order_ok s D[0] (by omega)
    obtain ⟨T, t1, t2, t3⟩ := lcL_ints (t := gN 11) (elt := C__law_map_v1_3) (ρ := [x0, x1, x2, .val true (.list (D.map .int)), .val true (.int way), .val true (.int o), .val true (.int s), .val true (.int w), .und, .und, .und, .und, .und, .und, .val true (.list (L.map .int)), .und, .und]) (mk := fun w : List Int => Sl.val true (wD w)) (Q := fun i => 0 ≤ i ∧ i < (s : Int)) (wrd s w) (fun v hv => by
      obtain ⟨h1, h2⟩ := wrd_in v hv
      obtain ⟨a, v, rfl⟩ : ∃ a u, v = a :: u := by
        cases v with
        | nil => rw [List.length_nil] at h1; omega
        | cons a u => exact ⟨a, u, rfl⟩
      have ha := h2 a List.mem_cons_self
      obtain ⟨m, rfl⟩ := Int.eq_ofNat_of_zero_le ha.1
      have lm := at_mem (xs := L) (k := m) (by omega)
      refine ⟨L[m], ?_, l3 _ (List.getElem_mem _)⟩
      simp_arith only [C__law_map_v1_3, atI_0, atI_cast, lm])
    rw [wrd_len] at t2
    have e3 : ((wrd s w).map wD).map (mkv true) = (wrd s w).map fun w : List Int => Sl.val true (wD w) := by rw [List.map_map]; rfl
    have z1 : T.length ≤ 16777216 := by omega
    refine ⟨s, o, w, T, ?_, ⟨s2, s4, by omega, by omega, w1, by omega, t2, t3⟩, o1, o2, w4, hz⟩
    subst c5
    simp_arith only [K__law_map_v1_4, mt4, d0, atI_0, l1, wo, e3, t1, z1]
  obtain ⟨p, t, p1, p2, p3, p4⟩ := partial_ok D[0]
  by_cases c7 : way = 7
  · subst c7
    obtain ⟨p', t', q1, q2, q3, q4⟩ := partial_ok D[1]
    by_cases c8 : D[2] % 2 = 1
    · obtain ⟨L, l1, l2, l3⟩ := order_ok 4 D[1] (by omega)
      have l1' : f__law_order_v1 [.int 4, .int D[1]] = some (.ret true (.list (L.map .int))) := l1
      obtain ⟨T, t1, t2, t3⟩ := after_ok (s := 4) (w := 2) (w' := 1) (o := p) (o' := 0) (t := t) (t' := L) (by decide) (by decide) p2.v.len (by rw [l2]) p2.v.cell l3 (by decide) (by decide) (by decide) (by decide) (by decide)
      have t1' : f__law_after_v1 [mapD 4 p 2 t, .tuple [.int 4, .int 0, .int 1, .list (L.map .int)]] = some (.ret true (.tuple [.int 4, .int (p + 0), .int 2, .list (T.map .int)])) := t1
      refine ⟨4, p + 0, 2, T, ?_, ⟨by decide, by decide, by omega, by omega, by decide, by decide, t2, t3⟩, by omega, by omega, by decide, by decide⟩
      simp_arith only [K__law_map_v1_4, mt4, d0, d1, d2, atI_0, atI_1, atI_2, p1, q1, c8, l1', t1']
      try rfl
    · obtain ⟨T, t1, t2, t3⟩ := after_ok (s := 4) (w := 2) (w' := 2) (o := p) (o' := p') (t := t) (t' := t') (by decide) (by decide) p2.v.len q2.v.len p2.v.cell q2.v.cell (by decide) (by decide) (by decide) (by decide) (by decide)
      have t1' : f__law_after_v1 [mapD 4 p 2 t, mapD 4 p' 2 t'] = some (.ret true (.tuple [.int 4, .int (p + p'), .int 3, .list (T.map .int)])) := t1
      refine ⟨4, p + p', 3, T, ?_, ⟨by decide, by decide, by omega, by omega, by decide, by decide, t2, t3⟩, by omega, by omega, by decide, by decide⟩
      simp_arith only [K__law_map_v1_4, mt4, d0, d1, d2, atI_0, atI_1, atI_2, p1, q1, c8, t1']
      try rfl
  · refine ⟨4, p, 2, t, ?_, p2⟩
    simp_arith only [K__law_map_v1_4, mt4, d0, atI_0, c1, c23, c24, c5, c7, p1]
theorem pow_64 {s w : Nat} (h : s = 2 ∧ w ≤ 4 ∨ s = 3 ∧ w ≤ 3 ∨ s = 4 ∧ w ≤ 2 ∨ s ≤ 3 ∧ w ≤ 2) : s ^ w ≤ 64 := by
  rcases h with ⟨rfl, h⟩ | ⟨rfl, h⟩ | ⟨rfl, h⟩ | ⟨h1, h⟩
  · exact Nat.le_trans (Nat.pow_le_pow_right (by decide) h) (by decide)
  · exact Nat.le_trans (Nat.pow_le_pow_right (by decide) h) (by decide)
  · exact Nat.le_trans (Nat.pow_le_pow_right (by decide) h) (by decide)
  · exact Nat.le_trans (Nat.pow_le_pow_left h1 w) (Nat.le_trans (Nat.pow_le_pow_right (by decide) h) (by decide))
theorem map1_ok (a b : Int) : ∃ (s : Nat) (o : Int) (w : Nat) (t : List Int), f__law_map_v1 [.int a, .int b] = some (.ret true (mapD s o w t)) ∧ MapOk s o w t := by
  obtain ⟨Z, z1, z2, z3⟩ := digits2_ok a 2520 5 (by decide) (by decide) (by decide)
  obtain ⟨D, d1, d2, d3⟩ := digits2_ok b 5040 81 (by decide) (by decide) (by decide)
  obtain ⟨q0, q1, q2, q3, q4, rfl⟩ : ∃ q0 q1 q2 q3 q4, Z = [q0, q1, q2, q3, q4] := by
    match Z, z2 with
    | [a, b, c, d, e], _ => exact ⟨a, b, c, d, e, rfl⟩
  have z1' : f__law_digits_v1 [.int a, .int 2520, .int 5] = some (.ret true (.list [.int q0, .int q1, .int q2, .int q3, .int q4])) := z1
  have d1' : f__law_digits_v1 [.int b, .int 5040, .int 81] = some (.ret true (.list (D.map .int))) := d1
  have y : 0 ≤ q0 % 8 ∧ q0 % 8 < 8 := ⟨Int.emod_nonneg _ (by decide), Int.emod_lt_of_pos _ (by decide)⟩
  have oo : 0 ≤ q1 % 7 ∧ q1 % 7 < 7 := ⟨Int.emod_nonneg _ (by decide), Int.emod_lt_of_pos _ (by decide)⟩
  have h2 : 0 ≤ q2 % 3 ∧ q2 % 3 < 3 := ⟨Int.emod_nonneg _ (by decide), Int.emod_lt_of_pos _ (by decide)⟩
  have h3 : 0 ≤ q3 % 4 ∧ q3 % 4 < 4 := ⟨Int.emod_nonneg _ (by decide), Int.emod_lt_of_pos _ (by decide)⟩
  obtain ⟨s, hs⟩ := Int.eq_ofNat_of_zero_le (show 0 ≤ 2 + q2 % 3 by omega)
  by_cases c1 : (2 : Int) < s
  · have h4 : 0 ≤ q3 % (6 - (s : Int)) ∧ q3 % (6 - (s : Int)) < 6 - (s : Int) := ⟨Int.emod_nonneg _ (by omega), Int.emod_lt_of_pos _ (by omega)⟩
    obtain ⟨w, hw⟩ := Int.eq_ofNat_of_zero_le (show 0 ≤ 1 + q3 % (6 - (s : Int)) by omega)
    have sp : (0 : Int) < 6 - (s : Int) ∧ 6 - (s : Int) < 1073741824 := by omega
    have s34 : s = 3 ∨ s = 4 := by omega
    by_cases c2 : (3 : Int) < s ∧ (q0 % 8 = 3 ∨ q0 % 8 = 4)
    · obtain ⟨s', o', w', t', r1, r2⟩ := map1_tail (.val true (.int a)) (.val true (.int b)) (.val true (.list [.int q0, .int q1, .int q2, .int q3, .int q4])) d2 (way := q0 % 8) (o := q1 % 7 - 3) (s := 3) (w := w) y.1 y.2 (by decide) (by decide) (fun _ => by decide) (by omega) (by omega) (pow_64 (by omega)) (by omega) (by omega)
      refine ⟨s', o', w', t', ?_, r2⟩
      rw [← r1]
      obtain ⟨c2, c3⟩ := c2
      rcases c3 with c3 | c3
      · rw [c3]
        simp_arith only [f__law_map_v1, F__law_map_v1, K__law_map_v1_5, z1', d1', atI_0, atI_1, atI_2, atI_3, c3, hs, c1, sp, hw, c2]
        rfl
      · rw [c3]
        simp_arith only [f__law_map_v1, F__law_map_v1, K__law_map_v1_5, z1', d1', atI_0, atI_1, atI_2, atI_3, c3, hs, c1, sp, hw, c2]
        rfl
    · obtain ⟨s', o', w', t', r1, r2⟩ := map1_tail (.val true (.int a)) (.val true (.int b)) (.val true (.list [.int q0, .int q1, .int q2, .int q3, .int q4])) d2 (way := q0 % 8) (o := q1 % 7 - 3) (s := s) (w := w) y.1 y.2 (by omega) (by omega) (fun h => by
        rcases s34 with h | h
        · omega
        · exact absurd ⟨by omega, by assumption⟩ c2) (by omega) (by omega) (pow_64 (by omega)) (by omega) (by omega)
      refine ⟨s', o', w', t', ?_, r2⟩
      rw [← r1]
      by_cases c3 : (3 : Int) < s
      · have c4 : ¬ q0 % 8 = 3 := fun h => c2 ⟨c3, .inl h⟩
        have c5 : ¬ q0 % 8 = 4 := fun h => c2 ⟨c3, .inr h⟩
        simp_arith only [f__law_map_v1, F__law_map_v1, K__law_map_v1_5, z1', d1', atI_0, atI_1, atI_2, atI_3, hs, c1, sp, hw, c3, c4, c5]
      · simp_arith only [f__law_map_v1, F__law_map_v1, K__law_map_v1_5, z1', d1', atI_0, atI_1, atI_2, atI_3, hs, c1, sp, hw, c3]
  · obtain ⟨w, hw⟩ := Int.eq_ofNat_of_zero_le (show 0 ≤ 1 + q3 % 4 by omega)
    have e2 : s = 2 := by omega
    subst e2
    obtain ⟨s', o', w', t', r1, r2⟩ := map1_tail (.val true (.int a)) (.val true (.int b)) (.val true (.list [.int q0, .int q1, .int q2, .int q3, .int q4])) d2 (way := q0 % 8) (o := q1 % 7 - 3) (s := 2) (w := w) y.1 y.2 (by decide) (by decide) (fun _ => by decide) (by omega) (by omega) (pow_64 (by omega)) (by omega) (by omega)
    refine ⟨s', o', w', t', ?_, r2⟩
    rw [← r1]
    have c3 : ¬ (3 : Int) < ((2 : Nat) : Int) := by decide
    simp_arith only [f__law_map_v1, F__law_map_v1, K__law_map_v1_5, z1', d1', atI_0, atI_1, atI_2, atI_3, hs, c1, c3, hw]
end
end PF
namespace PF
open PySem PySem.Spec PyProof.Rows L2 PL
noncomputable section
abbrev spD (b st : Int) (cs : List Int) : PyData := .tuple [.int b, .int st, .list (cs.map .int)]
/-- the cell at each place -/
def sc (b st : Int) (cs : List Int) (p : Int) : Int := if st ≤ p ∧ p < st + cs.length then cs.getD (p - st).toNat 0 else b
theorem sc_in {b st : Int} {cs : List Int} {P : Int → Prop} (hb : P b) (h : ∀ c ∈ cs, P c) (p : Int) : P (sc b st cs p) := by
  unfold sc
  split
  · rename_i hp
    have : (p - st).toNat < cs.length := by omega
    rw [List.getD_eq_getElem?_getD, List.getElem?_eq_getElem this]
    exact h _ (List.getElem_mem this)
  · exact hb
theorem sc_at {b st : Int} {cs : List Int} {i : Nat} (h : i < cs.length) : sc b st cs (st + i) = cs[i] := by
  unfold sc
  rw [if_pos (by omega), show (st + (i : Int) - st).toNat = i by omega, List.getD_eq_getElem?_getD, List.getElem?_eq_getElem h]; rfl
theorem sc_out {b st : Int} {cs : List Int} {p : Int} (h : ¬ (st ≤ p ∧ p < st + cs.length)) : sc b st cs p = b := by unfold sc; rw [if_neg h]
/-- in simple form -/
def Simp (b st : Int) (cs : List Int) : Prop := (cs = [] ∧ st = 0) ∨ ∃ h : cs ≠ [], cs.head h ≠ b ∧ cs.getLast h ≠ b
theorem simp_start {b st st' : Int} {cs cs' : List Int} (h : ∃ h : cs ≠ [], cs.head h ≠ b ∧ cs.getLast h ≠ b) (h' : ∃ h : cs' ≠ [], cs'.head h ≠ b ∧ cs'.getLast h ≠ b) (e : ∀ p, sc b st cs p = sc b st' cs' p) : st' ≤ st ∧ st + cs.length ≤ st' + cs'.length := by
  obtain ⟨n, h1, h2⟩ := h
  have l0 : 0 < cs.length := List.length_pos_iff.mpr n
  constructor
  · rcases Int.lt_or_le st st' with z | z
    · exfalso
      have e1 := e (st + (0 : Nat))
      rw [sc_at l0, sc_out (by omega)] at e1
      rw [List.head_eq_getElem] at h1
      exact h1 e1
    · exact z
  · rcases Int.lt_or_le (st' + cs'.length) (st + cs.length) with z | z
    · exfalso
      have l1 : cs.length - 1 < cs.length := by omega
      have e1 := e (st + ((cs.length - 1 : Nat) : Int))
      rw [sc_at l1, sc_out (by omega)] at e1
      rw [List.getLast_eq_getElem] at h2
      exact h2 e1
    · exact z
theorem simp_ne {b st st' : Int} {cs : List Int} (h : ∃ h : cs ≠ [], cs.head h ≠ b ∧ cs.getLast h ≠ b) (e : ∀ p, sc b st cs p = sc b st' [] p) : False := by
  obtain ⟨n, h1, h2⟩ := h
  have l0 : 0 < cs.length := List.length_pos_iff.mpr n
  have e1 := e (st + (0 : Nat))
  rw [sc_at l0, sc_out (by simp only [List.length_nil]; omega)] at e1
  rw [List.head_eq_getElem] at h1
  exact h1 e1
/-- a row has one simple form -/
theorem simp_unique {b st st' : Int} {cs cs' : List Int} (h : Simp b st cs) (h' : Simp b st' cs') (e : ∀ p, sc b st cs p = sc b st' cs' p) : st = st' ∧ cs = cs' := by
  rcases h with ⟨h1, h2⟩ | h
  · rcases h' with ⟨h3, h4⟩ | h'
    · rw [h1, h2, h3, h4]; exact ⟨rfl, rfl⟩
    · rw [h1] at e
      exact (simp_ne h' fun p => (e p).symm).elim
  · rcases h' with ⟨h3, h4⟩ | h'
    · rw [h3] at e
      exact (simp_ne h e).elim
    · have a1 := simp_start h h' e
      have a2 := simp_start h' h fun p => (e p).symm
      have es : st = st' := by omega
      subst es
      refine ⟨rfl, List.ext_getElem (by omega) fun i i1 i2 => ?_⟩
      have := e (st + (i : Nat))
      rwa [sc_at i1, sc_at i2] at this
/-- cut at both ends -/
theorem cut_simp {b st : Int} {cs : List Int} {f l : Nat} (hf : ∀ j, j < f → cs[j]? = some b) (hl : ∀ j, l ≤ j → j < cs.length → cs[j]? = some b) (fl : f < l) (ll : l ≤ cs.length) (h1 : cs[f]? ≠ some b) (h2 : cs[l - 1]? ≠ some b) :
    Simp b (st + f) ((cs.drop f).take (l - f)) ∧ ∀ p, sc b (st + f) ((cs.drop f).take (l - f)) p = sc b st cs p := by
  have len : ((cs.drop f).take (l - f)).length = l - f := by rw [List.length_take, List.length_drop]; omega
  have at' : ∀ i, i < l - f → ((cs.drop f).take (l - f))[i]? = cs[f + i]? := fun i hi => by
    rw [List.getElem?_take_of_lt hi, List.getElem?_drop]
  have n : (cs.drop f).take (l - f) ≠ [] := fun z => by
    have := congrArg List.length z
    rw [len, List.length_nil] at this
    omega
  refine ⟨.inr ⟨n, ?_, ?_⟩, fun p => ?_⟩
  · rw [List.head_eq_getElem]
    intro z
    have := at' 0 (by omega)
    rw [List.getElem?_eq_getElem (by omega), z, Nat.add_zero] at this
    exact h1 this.symm
  · rw [List.getLast_eq_getElem]
    intro z
    have := at' (l - f - 1) (by omega)
    rw [List.getElem?_eq_getElem (by omega)] at this
    have e : ((cs.drop f).take (l - f))[l - f - 1]'(by omega) = b := by
      rw [← z]; congr 1; omega
    rw [e, show f + (l - f - 1) = l - 1 by omega] at this
    exact h2 this.symm
  · by_cases hp : st ≤ p ∧ p < st + cs.length
    · obtain ⟨i, hi⟩ : ∃ i : Nat, p = st + i := ⟨(p - st).toNat, by omega⟩
      subst hi
      have il : i < cs.length := by omega
      rw [sc_at il]
      by_cases h3 : f ≤ i
      · by_cases h4 : i < l
        · have i2 : i - f < ((cs.drop f).take (l - f)).length := by omega
          have := at' (i - f) (by omega)
          rw [List.getElem?_eq_getElem i2, show f + (i - f) = i by omega, List.getElem?_eq_getElem il] at this
          rw [show st + (i : Int) = st + f + ((i - f : Nat) : Int) by omega, sc_at i2]
          exact Option.some.inj this
        · rw [sc_out (by omega)]
          have := hl i (by omega) il
          rw [List.getElem?_eq_getElem il] at this
          exact (Option.some.inj this).symm
      · rw [sc_out (by omega)]
        have := hf i (by omega)
        rw [List.getElem?_eq_getElem il] at this
        exact (Option.some.inj this).symm
    · rw [sc_out hp, sc_out (by omega)]
theorem all_simp {b st : Int} {cs : List Int} {f : Nat} (hf : ∀ j, j < f → cs[j]? = some b) (hl : ∀ j, f ≤ j → j < cs.length → cs[j]? = some b) : Simp b 0 [] ∧ ∀ p, sc b 0 [] p = sc b st cs p := by
  refine ⟨.inl ⟨rfl, rfl⟩, fun p => ?_⟩
  rw [sc_out (by simp only [List.length_nil]; omega)]
  by_cases hp : st ≤ p ∧ p < st + cs.length
  · obtain ⟨i, hi⟩ : ∃ i : Nat, p = st + i := ⟨(p - st).toNat, by omega⟩
    subst hi
    have il : i < cs.length := by omega
    rw [sc_at il]
    have : cs[i]? = some b := by
      rcases Nat.lt_or_ge i f with z | z
      · exact hf i z
      · exact hl i z il
    rw [List.getElem?_eq_getElem il] at this
    exact (Option.some.inj this).symm
  · rw [sc_out hp]
/-- what both functions promise -/
def SimpOf (b st : Int) (cs : List Int) (r : Option FR) : Prop := ∃ st' cs', r = some (.ret true (spD b st' cs')) ∧ Simp b st' cs' ∧ (∀ p, sc b st' cs' p = sc b st cs p) ∧ (∀ c ∈ cs', c ∈ cs) ∧ cs'.length ≤ cs.length
theorem simp_end {b st : Int} {cs : List Int} {f l : Nat} {r : Option FR} (hf : ∀ j, j < f → cs[j]? = some b) (hl : ∀ j, l ≤ j → j < cs.length → cs[j]? = some b) (fl : f ≤ l) (ll : l ≤ cs.length) (h1 : f < l → cs[f]? ≠ some b) (h2 : f < l → cs[l - 1]? ≠ some b)
    (re : r = some (.ret true (if f = l then spD b 0 [] else spD b (st + f) ((cs.drop f).take (l - f))))) : SimpOf b st cs r := by
  by_cases e : f = l
  · rw [if_pos e] at re
    subst e
    obtain ⟨a1, a2⟩ := all_simp (st := st) hf hl
    exact ⟨0, [], re, a1, a2, fun c hc => (by cases hc), Nat.zero_le _⟩
  · rw [if_neg e] at re
    obtain ⟨a1, a2⟩ := cut_simp (st := st) hf hl (by omega) ll (h1 (by omega)) (h2 (by omega))
    exact ⟨_, _, re, a1, a2, fun c hc => List.mem_of_mem_drop (List.mem_of_mem_take hc), by rw [List.length_take, List.length_drop]; omega⟩
theorem get_int {xs : List Int} {i : Nat} (h : i < xs.length) : (xs.map PyData.int)[i]? = some (.int xs[i]) := at_mem h
def B_spread_simple_1 : SF := (sAug 4 (gI cT (· + ·)) (eC (.int 1)))
def T_spread_simple_2 : BF := (bAnd (bOf (e2 (fD gLt) (eVar 4) (eCB (fD1 gLen) [(eVar 3)]))) (bOf (e2 (fD gEq) (e2 fIx (eVar 3) (eVar 4)) (eVar 1))))
def T_spread_simple_3 : BF := (bAnd (bOf (e2 (fD gGt) (eVar 5) (eVar 4))) (bOf (e2 (fD gEq) (e2 fIx (eVar 3) (e2 (fD gSub) (eVar 5) (eC (.int 1)))) (eVar 1))))
def F_spread_simple : SF := (sSeq (sUnp [1, 2, 3] (eVar 0))
  (sSeq (sSetZ 4 (eC (.int 0)))
  (sSeq (sWhileD [] PF.T_spread_simple_2
  PF.B_spread_simple_1)
  (sSeq (sSetZ 5 (eCB (fD1 gLen) [(eVar 3)]))
  (sSeq (sWhileD [] PF.T_spread_simple_3
  (sAug 5 gSub (eC (.int 1))))
  (sSeq (sIf (bOf (e2 (fD gEq) (eVar 4) (eVar 5)))
  (sRet (eTup [(eVar 1), (eC (.int 0)), (eList [])]))
  sNil)
  (sRet (eTup [(eVar 1), (e2 fAdd (eVar 2) (eVar 4)), (eSl (eVar 3) (pS (eVar 4)) (pS (eVar 5)))]))))))))
def f_spread_simple : FN := callF 6 F_spread_simple
abbrev ss2 (b st : Int) (cs : List Int) (f l : Nat) : Ev := [.val false (spD b st cs), .val true (.int b), .val true (.int st), .val false (.list (cs.map .int)), .val true (.int f), .val true (.int l)]
theorem spread_simple_2 {b st : Int} {cs : List Int} {f : Nat} {g : SF} (hl : cs.length < 16777216) (f1 : f ≤ cs.length) (f2 : ∀ j, j < f → cs[j]? = some b) (f3 : f < cs.length → cs[f]? ≠ some b)
    (hg : ∀ l : Nat, f ≤ l → l ≤ cs.length → kF (g (ss2 b st cs f l)) = some (.ret true (if f = l then spD b 0 [] else spD b (st + f) ((cs.drop f).take (l - f))))) :
    SimpOf b st cs (kF (kSeq (whileT (wturn [] T_spread_simple_3 (sAug 5 gSub (eC (.int 1)))) fuel (ss2 b st cs f cs.length)) g)) := by
  refine whileT_run (fun l ρ => f ≤ l ∧ l ≤ cs.length ∧ (∀ j, l ≤ j → j < cs.length → cs[j]? = some b) ∧ ρ = ss2 b st cs f l) (fun o => SimpOf b st cs (kF (kSeq o g))) ?_ fuel cs.length _ (by unfold fuel; omega) ⟨f1, Nat.le_refl _, fun j h1 h2 => absurd h1 (by omega), rfl⟩
  · rintro l ρ ⟨l1, l2, l3, rfl⟩
    by_cases h1 : (f : Int) < (l : Nat)
    · have hl1 : l - 1 < cs.length := by omega
      have e1 : ((l : Nat) : Int) - 1 = ((l - 1 : Nat) : Int) := by omega
      by_cases h2 : cs[l - 1] = b
      · left
        simp_arith only [ss2, T_spread_simple_3, h1, e1, atI_cast, get_int hl1, h2]
        refine ⟨_, l - 1, by omega, rfl, by omega, by omega, fun j hj1 hj2 => ?_, rfl⟩
        rcases Nat.lt_or_ge j l with z | z
        · rw [show j = l - 1 by omega, List.getElem?_eq_getElem hl1, h2]
        · exact l3 j z hj2
      · right; left
        simp_arith only [ss2, T_spread_simple_3, h1, e1, atI_cast, get_int hl1, h2]
        refine ⟨_, rfl, ?_⟩
        refine simp_end f2 l3 l1 l2 (fun z => f3 (by omega)) (fun z => ?_) (hg l l1 l2)
        rw [List.getElem?_eq_getElem hl1]
        exact fun y => h2 (Option.some.inj y)
    · right; left
      simp_arith only [ss2, T_spread_simple_3, h1]
      exact ⟨_, rfl, simp_end f2 l3 l1 l2 (fun z => absurd z (by omega)) (fun z => absurd z (by omega)) (hg l l1 l2)⟩
theorem spread_simple_ok {b st : Int} {cs : List Int} (hl : cs.length < 16777216) : SimpOf b st cs (f_spread_simple [spD b st cs]) := by
  have fin : ∀ f l : Nat, f ≤ l → l ≤ cs.length → kF (sSeq (sIf (bOf (e2 (fD gEq) (eVar 4) (eVar 5)))
  (sRet (eTup [(eVar 1), (eC (.int 0)), (eList [])]))
  sNil)
  (sRet (eTup [(eVar 1), (e2 fAdd (eVar 2) (eVar 4)), (eSl (eVar 3) (pS (eVar 4)) (pS (eVar 5)))])) (ss2 b st cs f l)) = some (.ret true (if f = l then spD b 0 [] else spD b (st + f) ((cs.drop f).take (l - f)))) := fun f l f1 l1 => by
    by_cases e : f = l
    · subst e
      simp_arith only [ss2, if_true]
      rfl
    · have e' : ¬ ((f : Nat) : Int) = (l : Nat) := fun z => e (by exact_mod_cast z)
      simp_arith only [ss2, e', cutD_nat, all_scal, if_neg e]
      rw [← List.map_drop, ← List.map_take]
  simp_arith only [f_spread_simple, F_spread_simple]
  refine whileT_run (fun m ρ => ∃ f : Nat, f ≤ cs.length ∧ m = cs.length - f ∧ (∀ j, j < f → cs[j]? = some b) ∧ ρ = [.val false (spD b st cs), .val true (.int b), .val true (.int st), .val false (.list (cs.map .int)), .val true (.int f), .und]) (fun o => SimpOf b st cs (kF (kSeq o _))) ?_ fuel (cs.length - 0) _ (by unfold fuel; omega) ⟨0, Nat.zero_le _, rfl, fun j hj => absurd hj (Nat.not_lt_zero j), rfl⟩
  · rintro m ρ ⟨f, f1, rfl, f2, rfl⟩
    by_cases h1 : (f : Int) < (cs.length : Nat)
    · have hf : f < cs.length := by omega
      by_cases h2 : cs[f] = b
      · left
        simp_arith only [T_spread_simple_2, B_spread_simple_1, h1, atI_cast, get_int hf, h2]
        refine ⟨_, cs.length - (f + 1), by omega, rfl, f + 1, by omega, rfl, fun j hj => ?_, by rw [show ((f : Int) + 1) = ((f + 1 : Nat) : Int) by omega]⟩
        rcases Nat.lt_or_ge j f with z | z
        · exact f2 j z
        · rw [show j = f by omega, List.getElem?_eq_getElem hf, h2]
      · right; left
        simp_arith only [T_spread_simple_2, h1, atI_cast, get_int hf, h2]
        refine ⟨_, rfl, ?_⟩
        simp_arith only []
        exact spread_simple_2 hl f1 f2 (fun _ => by rw [List.getElem?_eq_getElem hf]; exact fun y => h2 (Option.some.inj y)) (fun l l1 l2 => fin f l l1 l2)
    · right; left
      simp_arith only [T_spread_simple_2, h1, atI_cast]
      refine ⟨_, rfl, ?_⟩
      simp_arith only []
      exact spread_simple_2 hl f1 f2 (fun z => absurd z (by omega)) (fun l l1 l2 => fin f l l1 l2)
/-- both give the same -/
theorem SimpOf.eq {b st st' : Int} {cs cs' : List Int} {r r' : Option FR} (h : SimpOf b st cs r) (h' : SimpOf b st' cs' r') (e : ∀ p, sc b st cs p = sc b st' cs' p) : r = r' := by
  obtain ⟨s1, c1, e1, e2, e3, -⟩ := h
  obtain ⟨s2, c2, e4, e5, e6, -⟩ := h'
  obtain ⟨h1, h2⟩ := simp_unique e2 e5 fun p => by rw [e3, e6, e]
  rw [e1, e4, h1, h2]
def swin (b st : Int) (cs : List Int) (p : Int) (w : Nat) : List Int := (List.range w).map fun (j : Nat) => sc b st cs (p + (j : Int))
def rawC (s w : Nat) (t : List Int) (b st : Int) (cs : List Int) : List Int := (List.range (cs.length + w - 1)).map fun (k : Nat) => newC s t (swin b st cs (st - w + 1 + (k : Int)) w)
theorem swin_len (b st : Int) (cs : List Int) (p : Int) (w : Nat) : (swin b st cs p w).length = w := by unfold swin; rw [List.length_map, List.length_range]
theorem swin_get {b st : Int} {cs : List Int} {p : Int} {w i : Nat} (h : i < w) : (swin b st cs p w)[i]? = some (sc b st cs (p + (i : Int))) := by
  unfold swin
  rw [List.getElem?_map, List.getElem?_eq_getElem (by rw [List.length_range]; exact h), List.getElem_range]; rfl
theorem raw_get {s w : Nat} {t : List Int} {b st : Int} {cs : List Int} {k : Nat} (h : k < cs.length + w - 1) : (rawC s w t b st cs)[k]? = some (newC s t (swin b st cs (st - w + 1 + (k : Int)) w)) := by
  unfold rawC
  rw [List.getElem?_map, List.getElem?_eq_getElem (by rw [List.length_range]; exact h), List.getElem_range]; rfl
theorem swin_out {b st : Int} {cs : List Int} {p : Int} {w : Nat} (h : p + w ≤ st ∨ st + cs.length ≤ p) : swin b st cs p w = List.replicate w b := by
  unfold swin
  refine List.ext_getElem (by rw [List.length_map, List.length_range, List.length_replicate]) fun i h1 h2 => ?_
  rw [List.length_replicate] at h2
  rw [List.getElem_map, List.getElem_range, List.getElem_replicate]
  exact sc_out (by omega)
theorem pad_at {b st : Int} {cs : List Int} {n i : Nat} (h : i < cs.length + 2 * n) : (List.replicate n b ++ cs ++ List.replicate n b)[i]? = some (sc b st cs (st - n + i)) := by
  by_cases h1 : i < n
  · rw [List.append_assoc, List.getElem?_append_left (by rw [List.length_replicate]; exact h1), List.getElem?_replicate, if_pos h1, sc_out (by omega)]
  · by_cases h2 : i < n + cs.length
    · rw [List.getElem?_append_left (by rw [List.length_append, List.length_replicate]; exact h2), List.getElem?_append_right (by rw [List.length_replicate]; omega), List.length_replicate, List.getElem?_eq_getElem (by omega),
        show st - (n : Int) + (i : Int) = st + ((i - n : Nat) : Int) by omega, sc_at (by omega)]
    · rw [List.getElem?_append_right (by rw [List.length_append, List.length_replicate]; omega), List.length_append, List.length_replicate, List.getElem?_replicate, if_pos (by omega), sc_out (by omega)]
theorem pad_win {b st : Int} {cs : List Int} {w k : Nat} (hw : 1 ≤ w) (h : k < cs.length + w - 1) : ((List.replicate (w - 1) b ++ cs ++ List.replicate (w - 1) b).drop k).take w = swin b st cs (st - w + 1 + k) w := by
  have lp : (List.replicate (w - 1) b ++ cs ++ List.replicate (w - 1) b).length = cs.length + 2 * (w - 1) := by rw [List.length_append, List.length_append, List.length_replicate]; omega
  refine List.ext_getElem (by rw [swin_len, List.length_take, List.length_drop, lp]; omega) fun i h1 h2 => ?_
  have h2' := h2
  rw [swin_len] at h2
  have e1 := pad_at (b := b) (st := st) (cs := cs) (n := w - 1) (i := k + i) (by omega)
  rw [List.getElem_take, List.getElem_drop]
  rw [List.getElem?_eq_getElem (by rw [lp]; omega)] at e1
  have e2 := swin_get (b := b) (st := st) (cs := cs) (p := st - w + 1 + (k : Int)) h2
  rw [List.getElem?_eq_getElem h2'] at e2
  rw [Option.some.inj e1, Option.some.inj e2]
  congr 1
  omega
theorem raw_apply {s w : Nat} {t : List Int} {b st : Int} {cs : List Int} (hw : 1 ≤ w) : applyL s w t (List.replicate (w - 1) b ++ cs ++ List.replicate (w - 1) b) = rawC s w t b st cs := by
  have lp : (List.replicate (w - 1) b ++ cs ++ List.replicate (w - 1) b).length + 1 - w = cs.length + w - 1 := by rw [List.length_append, List.length_append, List.length_replicate]; omega
  unfold applyL wins rawC
  rw [List.map_map, lp]
  refine List.map_congr_left fun k hk => ?_
  rw [List.mem_range] at hk
  show newC s t (((List.replicate (w - 1) b ++ cs ++ List.replicate (w - 1) b).drop k).take w) = _
  rw [pad_win (st := st) hw hk]
/-- the raw image's cells -/
theorem raw_sc {s w : Nat} {o : Int} {t : List Int} {b st : Int} {cs : List Int} (hw : 1 ≤ w) (p : Int) : sc (newC s t (List.replicate w b)) (st - o - w + 1) (rawC s w t b st cs) p = newC s t (swin b st cs (p + o) w) := by
  have lr : (rawC s w t b st cs).length = cs.length + w - 1 := by unfold rawC; rw [List.length_map, List.length_range]
  by_cases hp : st - o - w + 1 ≤ p ∧ p < st - o - w + 1 + (rawC s w t b st cs).length
  · obtain ⟨k, hk⟩ : ∃ k : Nat, p = st - o - w + 1 + k := ⟨(p - (st - o - w + 1)).toNat, by omega⟩
    have kl : k < (rawC s w t b st cs).length := by omega
    have e2 := raw_get (s := s) (t := t) (b := b) (st := st) (cs := cs) (w := w) (k := k) (by omega)
    rw [List.getElem?_eq_getElem kl] at e2
    rw [hk, sc_at kl, Option.some.inj e2]
    congr 2
    omega
  · rw [sc_out hp, swin_out (by omega)]
theorem raw_in {s w : Nat} {t : List Int} {b st : Int} {cs : List Int} (hs : 0 < s) (h : ∀ c ∈ t, 0 ≤ c ∧ c < (s : Int)) : ∀ c ∈ rawC s w t b st cs, 0 ≤ c ∧ c < (s : Int) := fun c hc => by
  unfold rawC at hc
  obtain ⟨k, -, rfl⟩ := List.mem_map.mp hc
  exact newC_in hs h _
theorem raw_len (s w : Nat) (t : List Int) (b st : Int) (cs : List Int) : (rawC s w t b st cs).length = cs.length + w - 1 := by unfold rawC; rw [List.length_map, List.length_range]
theorem rep_in {P : Int → Prop} {b : Int} (h : P b) (n : Nat) : ∀ c ∈ List.replicate n b, P c := fun c hc => by rw [List.eq_of_mem_replicate hc]; exact h
def F_spread_image : SF := (sSeq (sUnp [2, 3, 4, 2] (eVar 0))
  (sSeq (sUnp [5, 6, 7] (eVar 1))
  (sSeq (sSetZ 8 (e2 fMul (eList [(eVar 5)]) (e2 (fD gSub) (eVar 4) (eC (.int 1)))))
  (sSeq (sSetZ 9 (eCall PF.f_apply_word [(eVar 0), (e2 fAdd (e2 fAdd (eVar 8) (eVar 7)) (eVar 8))]))
  (sRet (eCall PF.f_spread_simple [(eTup [(eCall PF.f_new_cell [(eVar 0), (e2 fMul (eList [(eVar 5)]) (eVar 4))]), (e2 (fD gSub) (e2 fAdd (e2 (fD gSub) (eVar 6) (eVar 4)) (eC (.int 1))) (eVar 3)), (eVar 9)])]))))))
def f_spread_image : FN := callF 10 F_spread_image
theorem spread_image_ok {s w : Nat} {o : Int} {t : List Int} {b st : Int} {cs : List Int} (hs : 0 < s) (hs' : s < 18446744073709551616) (ht : t.length = s ^ w) (hb : 0 ≤ b ∧ b < (s : Int)) (hx : ∀ c ∈ cs, 0 ≤ c ∧ c < (s : Int)) (hl : cs.length < 10000000) (hw : 1 ≤ w) (hw' : w < 1000000) :
    SimpOf (newC s t (List.replicate w b)) (st - o - w + 1) (rawC s w t b st cs) (f_spread_image [mapD s o w t, spD b st cs]) := by
  have ap := apply_word_ok (o := o) (xs := List.replicate (w - 1) b ++ cs ++ List.replicate (w - 1) b) hs hs' ht (fun c hc => by
    rcases List.mem_append.mp hc with h | h
    · rcases List.mem_append.mp h with h | h
      · exact rep_in (P := fun c => 0 ≤ c ∧ c < (s : Int)) hb _ c h
      · exact hx c h
    · exact rep_in (P := fun c => 0 ≤ c ∧ c < (s : Int)) hb _ c h) (by rw [List.length_append, List.length_append, List.length_replicate]; omega) (by omega)
  rw [raw_apply (st := st) hw, List.map_append, List.map_append, List.map_replicate] at ap
  have nc := new_cell_ok (o := o) (ws := List.replicate w b) hs hs' ht List.length_replicate (rep_in (P := fun c => 0 ≤ c ∧ c < (s : Int)) hb w)
  rw [List.map_replicate] at nc
  have SS := spread_simple_ok (b := newC s t (List.replicate w b)) (st := st - w + 1 - o) (cs := rawC s w t b st cs) (by rw [raw_len]; omega)
  rw [show st - (w : Int) + 1 - o = st - o - w + 1 by omega] at SS
  obtain ⟨st', cs', e1, e2⟩ := SS
  refine ⟨st', cs', ?_, e2⟩
  have z1 : ((w : Int) - 1) = ((w - 1 : Nat) : Int) := by omega
  have b1 : (-9223372036854775808 : Int) ≤ ((w - 1 : Nat) : Int) := by omega
  have b2 : ((w - 1 : Nat) : Int) < 9223372036854775808 := by omega
  have b3 : 1 * (w - 1) ≤ 16777216 := by omega
  have b4 : (-9223372036854775808 : Int) ≤ (w : Int) := by omega
  have b5 : (w : Int) < 9223372036854775808 := by omega
  have b6 : 1 * w ≤ 16777216 := by omega
  have b7 : w - 1 + cs.length ≤ 16777216 := by omega
  have b8 : w - 1 + cs.length + (w - 1) ≤ 16777216 := by omega
  have ez : st - (w : Int) + 1 - o = st - o - w + 1 := by omega
  simp_arith only [f_spread_image, F_spread_image, z1, flat_rep, Int.toNat_natCast, b1, b2, b3, b4, b5, b6, List.length_replicate, List.length_append, b7, b8, all_scal, ap, nc, ez]
  simp_arith only [e1]
end
end PF
namespace PF
open PySem PySem.Spec PyProof.Rows L2 PL
noncomputable section
def B__law_simple_1 : SF := (sSeq (sSetZ 3 (eSl (eVar 3) (pS (eC (.int 1))) pN))
  (sSetZ 2 (e2 fAdd (eVar 2) (eC (.int 1)))))
def T__law_simple_2 : BF := (bAnd (bOf (e2 (fD gGt) (eCB (fD1 gLen) [(eVar 3)]) (eC (.int 0)))) (bOf (e2 (fD gEq) (e2 fIx (eVar 3) (eC (.int 0))) (eVar 1))))
def B__law_simple_3 : SF := (sSetZ 3 (eSl (eVar 3) pN (pS (e2 (fD gSub) (eCB (fD1 gLen) [(eVar 3)]) (eC (.int 1))))))
def T__law_simple_4 : BF := (bAnd (bOf (e2 (fD gGt) (eCB (fD1 gLen) [(eVar 3)]) (eC (.int 0)))) (bOf (e2 (fD gEq) (e2 fIx (eVar 3) (e2 (fD gSub) (eCB (fD1 gLen) [(eVar 3)]) (eC (.int 1)))) (eVar 1))))
def F__law_simple : SF := (sSeq (sUnp [1, 2, 3] (eVar 0))
  (sSeq (sSetZ 3 (eCB fLs [(eVar 3)]))
  (sSeq (sWhileD [] PF.T__law_simple_2
  PF.B__law_simple_1)
  (sSeq (sWhileD [] PF.T__law_simple_4
  PF.B__law_simple_3)
  (sRet (eTup [(eVar 1), (eIf (bOf (e2 (fD gGt) (eCB (fD1 gLen) [(eVar 3)]) (eC (.int 0)))) (eVar 2) (eC (.int 0))), (eVar 3)]))))))
def f__law_simple : FN := callF 4 F__law_simple
theorem sc_cons (b st : Int) (c : List Int) (p : Int) : sc b st (b :: c) p = sc b (st + 1) c p := by
  unfold sc
  rw [List.length_cons]
  by_cases h : st + 1 ≤ p ∧ p < st + 1 + (c.length : Nat)
  · obtain ⟨k, hk⟩ : ∃ k : Nat, p - (st + 1) = k := ⟨(p - (st + 1)).toNat, by omega⟩
    rw [if_pos h, if_pos (by omega), hk, show p - st = ((k + 1 : Nat) : Int) by omega]; rfl
  · rw [if_neg h]
    split
    · rw [show p - st = 0 by omega]; rfl
    · rfl
theorem sc_snoc (b st : Int) (c : List Int) (p : Int) : sc b st (c ++ [b]) p = sc b st c p := by
  unfold sc
  rw [List.length_append, List.length_singleton]
  by_cases h : st ≤ p ∧ p < st + (c.length : Nat)
  · rw [if_pos h, if_pos (by omega), List.getD_eq_getElem?_getD, List.getElem?_append_left (by omega), ← List.getD_eq_getElem?_getD]
  · rw [if_neg h]
    split
    · rw [List.getD_eq_getElem?_getD, show (p - st).toNat = c.length by omega, List.getElem?_append_right (Nat.le_refl _), Nat.sub_self]; rfl
    · rfl
def sE (x0 : Sl) (b st : Int) (cs : List Int) : Ev := [x0, .val true (.int b), .val true (.int st), .val true (.list (cs.map .int))]
theorem sE_end {x0 : Sl} {b st1 : Int} {cs1 : List Int} : kF (sRet (eTup [(eVar 1), (eIf (bOf (e2 (fD gGt) (eCB (fD1 gLen) [(eVar 3)]) (eC (.int 0)))) (eVar 2) (eC (.int 0))), (eVar 3)]) (sE x0 b st1 cs1)) = some (.ret true (spD b (if cs1 = [] then 0 else st1) cs1)) := by
  cases cs1 with
  | nil => simp_arith only [sE]; rfl
  | cons c cs1 =>
    have h : (0 : Int) < (((c :: cs1).length : Nat) : Int) := by rw [List.length_cons]; omega
    rw [if_neg (by exact fun h => nomatch h)]
    simp_arith only [sE, h]
    simp only [List.length_cons] at h
    simp_arith only [h]
    try rfl
theorem law_simple_2 {x0 : Sl} {b st st1 : Int} {cs cs1 : List Int} (hl : cs1.length < 1000000) (h0 : ∀ p, sc b st1 cs1 p = sc b st cs p) (hm : ∀ c ∈ cs1, c ∈ cs) (hle : cs1.length ≤ cs.length) (hh : ∀ h : cs1 ≠ [], cs1.head h ≠ b) : SimpOf b st cs (kF (kSeq (whileT (wturn [] T__law_simple_4 B__law_simple_3) fuel (sE x0 b st1 cs1)) (sRet (eTup [(eVar 1), (eIf (bOf (e2 (fD gGt) (eCB (fD1 gLen) [(eVar 3)]) (eC (.int 0)))) (eVar 2) (eC (.int 0))), (eVar 3)])))) := by
  refine whileT_run (fun m ρ => ∃ cs2 : List Int, m = cs2.length ∧ cs2.length < 1000000 ∧ (∀ p, sc b st1 cs2 p = sc b st cs p) ∧ (∀ c ∈ cs2, c ∈ cs) ∧ cs2.length ≤ cs.length ∧ (∀ h : cs2 ≠ [], cs2.head h ≠ b) ∧ ρ = sE x0 b st1 cs2) (fun o => SimpOf b st cs (kF (kSeq o _))) ?_ fuel cs1.length _ (by rw [show fuel = 1000000000000000000 from rfl]; omega) ⟨cs1, rfl, hl, h0, hm, hle, hh, rfl⟩
  rintro m ρ ⟨cs2, rfl, l2, p2, m2, n2, q2, rfl⟩
  rcases List.eq_nil_or_concat cs2 with e | ⟨c, x, e⟩
  · right; left
    subst e
    refine ⟨sE x0 b st1 [], ?_, ?_⟩
    · simp_arith only [T__law_simple_4, sE]
    · rw [kSeq_nx, sE_end, if_pos rfl]
      exact ⟨0, [], rfl, .inl ⟨rfl, rfl⟩, fun p => by rw [← p2 p]; unfold sc; split <;> split <;> first | rfl | (exfalso; simp only [List.length_nil] at *; omega), m2, n2⟩
  · rw [List.concat_eq_append] at e
    have hlen : cs2.length = c.length + 1 := by rw [e, List.length_append]; rfl
    have e1 : ((cs2.length : Nat) : Int) - 1 = ((c.length : Nat) : Int) := by omega
    have h1 : (0 : Int) < ((cs2.length : Nat) : Int) := by omega
    have hat : (cs2.map PyData.int)[c.length]? = some (.int x) := by rw [e, List.map_append, List.getElem?_append_right (by rw [List.length_map]; omega), List.length_map, Nat.sub_self]; rfl
    by_cases hx : x = b
    · left
      have cut : PL.cutD (cs2.map PyData.int) none (some ((c.length : Nat) : Int)) = c.map .int := by
        rw [cutD_to, e, List.map_append, List.take_left' (by rw [List.length_map])]
      refine ⟨sE x0 b st1 c, c.length, by omega, ?_, c, rfl, by omega, fun p => by rw [← p2 p, e, hx, sc_snoc], fun y hy => m2 y (by rw [e]; exact List.mem_append_left _ hy), by omega, fun h => ?_, rfl⟩
      · simp_arith only [T__law_simple_4, B__law_simple_3, sE, h1, e1, atI_cast, hat, hx, cut]
      · have hne : cs2 ≠ [] := by intro z; rw [z] at hlen; cases hlen
        have := q2 hne
        cases c with
        | nil => exact absurd rfl h
        | cons a c =>
          rw [show cs2.head hne = a by subst e; rfl] at this
          exact this
    · right; left
      refine ⟨sE x0 b st1 cs2, ?_, ?_⟩
      · simp_arith only [T__law_simple_4, sE, h1, e1, atI_cast, hat, hx]
      · have hne : cs2 ≠ [] := by intro z; rw [z] at hlen; cases hlen
        rw [kSeq_nx, sE_end, if_neg hne]
        refine ⟨st1, cs2, rfl, .inr ⟨hne, q2 hne, ?_⟩, p2, m2, n2⟩
        subst e
        rw [List.getLast_concat]; exact hx
theorem law_simple_ok {b st : Int} {cs : List Int} (hl : cs.length < 1000000) : SimpOf b st cs (f__law_simple [spD b st cs]) := by
  simp_arith only [f__law_simple, F__law_simple, spD]
  refine whileT_run (fun m ρ => ∃ (st1 : Int) (cs1 : List Int), m = cs1.length ∧ cs1.length < 1000000 ∧ (∀ p, sc b st1 cs1 p = sc b st cs p) ∧ (∀ c ∈ cs1, c ∈ cs) ∧ cs1.length ≤ cs.length ∧ ρ = sE (.val false (spD b st cs)) b st1 cs1) (fun o => SimpOf b st cs (kF (kSeq o _))) ?_ fuel cs.length _ (by rw [show fuel = 1000000000000000000 from rfl]; omega) ⟨st, cs, rfl, hl, fun _ => rfl, fun _ h => h, Nat.le_refl _, rfl⟩
  rintro m ρ ⟨st1, cs1, rfl, l1, p1, m1, n1, rfl⟩
  cases cs1 with
  | nil =>
    right; left
    refine ⟨sE (.val false (spD b st cs)) b st1 [], ?_, ?_⟩
    · simp_arith only [T__law_simple_2, sE]
    · rw [kSeq_nx]
      exact law_simple_2 (by decide) p1 m1 n1 fun h => absurd rfl h
  | cons c cs1 =>
    have h1 : (0 : Int) < ((cs1.length + 1 : Nat) : Int) := by omega
    rw [List.length_cons] at l1 n1
    by_cases hc : c = b
    · left
      have cut : PL.cutD (PyData.int b :: cs1.map .int) (some 1) none = cs1.map .int := cutD_from 1
      subst hc
      refine ⟨sE (.val false (spD c st cs)) c (st1 + 1) cs1, cs1.length, by rw [List.length_cons]; omega, ?_, st1 + 1, cs1, rfl, by omega, fun p => by rw [← p1 p, sc_cons], fun y hy => m1 y (List.mem_cons_of_mem _ hy), by omega, rfl⟩
      simp_arith only [T__law_simple_2, B__law_simple_1, sE, h1, atI_0, cut]
    · right; left
      refine ⟨sE (.val false (spD b st cs)) b st1 (c :: cs1), ?_, ?_⟩
      · simp_arith only [T__law_simple_2, sE, h1, atI_0, hc]
      · rw [kSeq_nx]
        exact law_simple_2 (by rw [List.length_cons]; omega) p1 m1 (by rw [List.length_cons]; omega) fun _ => hc
def F__law_image : SF := (sSeq (sUnp [2, 3, 4] (eVar 1))
  (sSeq (sSetZ 5 (e2 fIx (eVar 0) (eC (.int 2))))
  (sSeq (sSetZ 6 (e2 fAdd (e2 fAdd (e2 fMul (eList [(eVar 2)]) (e2 (fD gSub) (eVar 5) (eC (.int 1)))) (eVar 4)) (e2 fMul (eList [(eVar 2)]) (e2 (fD gSub) (eVar 5) (eC (.int 1))))))
  (sSeq (sSetZ 7 (eCall PF.f__law_new [(eVar 0), (e2 fMul (eList [(eVar 2)]) (eVar 5))]))
  (sRet (eCall PF.f__law_simple [(eTup [(eVar 7), (e2 fAdd (e2 (fD gSub) (e2 (fD gSub) (eVar 3) (e2 fIx (eVar 0) (eC (.int 1)))) (eVar 5)) (eC (.int 1))), (eCall PF.f__law_word [(eVar 0), (eVar 6)])])]))))))
def f__law_image : FN := callF 8 F__law_image
theorem law_image_ok {s w : Nat} {o : Int} {t : List Int} {b st : Int} {cs : List Int} (hs : 0 < s) (hs' : s < 18446744073709551616) (ht : t.length = s ^ w) (hb : 0 ≤ b ∧ b < (s : Int)) (hc : ∀ c ∈ t, 0 ≤ c ∧ c < (s : Int)) (hx : ∀ c ∈ cs, 0 ≤ c ∧ c < (s : Int)) (hl : cs.length < 100000) (hw : 1 ≤ w) (hw' : w < 1000) :
    SimpOf (newC s t (List.replicate w b)) (st - o - w + 1) (rawC s w t b st cs) (f__law_image [mapD s o w t, spD b st cs]) := by
  have ap := word_ok (o := o) (xs := List.replicate (w - 1) b ++ cs ++ List.replicate (w - 1) b) hs hs' ht (fun c hc => by
    rcases List.mem_append.mp hc with h | h
    · rcases List.mem_append.mp h with h | h
      · exact rep_in (P := fun c => 0 ≤ c ∧ c < (s : Int)) hb _ c h
      · exact hx c h
    · exact rep_in (P := fun c => 0 ≤ c ∧ c < (s : Int)) hb _ c h) (by
    rw [List.length_append, List.length_append, List.length_replicate]; omega) (by omega)
  rw [raw_apply (st := st) hw, wD, List.map_append, List.map_append, List.map_replicate] at ap
  have nb := new_ok (o := o) (ws := List.replicate w b) hs hs' ht List.length_replicate (rep_in (P := fun c => 0 ≤ c ∧ c < (s : Int)) hb _)
  rw [wD, List.map_replicate] at nb
  have e1 : (w : Int) - 1 = ((w - 1 : Nat) : Int) := by omega
  have ls := law_simple_ok (b := newC s t (List.replicate w b)) (st := st - o - w + 1) (cs := rawC s w t b st cs) (by rw [raw_len]; omega)
  obtain ⟨st', cs', r1, r2⟩ := ls
  refine ⟨st', cs', ?_, r2⟩
  have z1 : 1 * (w - 1) ≤ 16777216 := by omega
  have z5 : 1 * w ≤ 16777216 := by omega
  have b1 : -(9223372036854775808) ≤ ((w - 1 : Nat) : Int) ∧ ((w - 1 : Nat) : Int) < 9223372036854775808 := by omega
  have b2 : -(9223372036854775808) ≤ (w : Int) ∧ (w : Int) < 9223372036854775808 := by omega
  have z2 : w ≤ 16777216 := by omega
  have z3 : w - 1 + cs.length ≤ 16777216 := by omega
  have z4 : w - 1 + cs.length + (w - 1) ≤ 16777216 := by omega
  simp_arith only [f__law_image, F__law_image, spD, atI_1, atI_2, e1, flat_rep, List.length_replicate, Int.toNat_natCast, List.length_append, z1, z2, z3, z4, z5, b1, b2, nb, ap, r1]
end
end PF
namespace PF
open PySem PySem.Spec PyProof.Rows L2 PL
noncomputable section
structure Rw where
  b : Int
  st : Int
  cs : List Int
abbrev rD (x : Rw) : PyData := spD x.b x.st x.cs
def RIn (s : Nat) (x : Rw) : Prop := (0 ≤ x.b ∧ x.b < (s : Int)) ∧ ∀ c ∈ x.cs, 0 ≤ c ∧ c < (s : Int)
structure Stp (s w : Nat) (o : Int) (t : List Int) (x y : Rw) : Prop where
  b : y.b = newC s t (List.replicate w x.b)
  simp : Simp y.b y.st y.cs
  cell : ∀ p, sc y.b y.st y.cs p = newC s t (swin x.b x.st x.cs (p + o) w)
theorem Stp.eq {s w : Nat} {o : Int} {t : List Int} {x y z : Rw} (h : Stp s w o t x y) (h' : Stp s w o t x z) : y = z := by
  obtain ⟨b1, st1, c1⟩ := y
  obtain ⟨b2, st2, c2⟩ := z
  have e : b1 = b2 := h.b.trans h'.b.symm
  subst e
  obtain ⟨e1, e2⟩ := simp_unique h.simp h'.simp fun p => (h.cell p).trans (h'.cell p).symm
  have e1 : st1 = st2 := e1
  have e2 : c1 = c2 := e2
  rw [e1, e2]
structure MpV (s w : Nat) (t : List Int) : Prop where
  s0 : 0 < s
  s4 : s ≤ 4
  len : t.length = s ^ w
  cell : ∀ c ∈ t, 0 ≤ c ∧ c < (s : Int)
  w1 : 1 ≤ w
  w6 : w ≤ 6
theorem MapOk.mp {s w : Nat} {o : Int} {t : List Int} (h : MapOk s o w t) : MpV s w t := ⟨by have := h.v.s2; omega, h.v.s4, h.v.len, h.v.cell, h.v.w1, h.v.w6⟩
section
variable {s w : Nat} {o : Int} {t : List Int}
theorem SimpOf.stp {r : Option FR} {x : Rw} (m : MpV s w t) (hx : RIn s x) (h : SimpOf (newC s t (List.replicate w x.b)) (x.st - o - w + 1) (rawC s w t x.b x.st x.cs) r) : ∃ y, r = some (.ret true (rD y)) ∧ Stp s w o t x y ∧ RIn s y ∧ y.cs.length ≤ x.cs.length + (w - 1) := by
  obtain ⟨st', cs', r1, r2, r3, r4, r5⟩ := h
  refine ⟨⟨_, st', cs'⟩, r1, ⟨rfl, r2, fun p => ?_⟩, ⟨newC_in m.s0 m.cell _, fun c hc => raw_in m.s0 m.cell c (r4 c hc)⟩, ?_⟩
  · show sc (newC s t (List.replicate w x.b)) st' cs' p = _
    rw [r3 p, ← raw_sc m.w1]
  · rw [raw_len] at r5
    show cs'.length ≤ _
    have := m.w1
    omega
theorem img_ok {x : Rw} (m : MpV s w t) (hx : RIn s x) (hl : x.cs.length < 100000) : ∃ y, f_spread_image [mapD s o w t, rD x] = some (.ret true (rD y)) ∧ f__law_image [mapD s o w t, rD x] = some (.ret true (rD y)) ∧ Stp s w o t x y ∧ RIn s y ∧ y.cs.length ≤ x.cs.length + (w - 1) := by
  have h1 := spread_image_ok (o := o) (st := x.st) m.s0 (by have := m.s4; omega) m.len hx.1 hx.2 (by omega) m.w1 (by have := m.w6; omega)
  have h2 := law_image_ok (o := o) (st := x.st) m.s0 (by have := m.s4; omega) m.len hx.1 m.cell hx.2 (by omega) m.w1 (by have := m.w6; omega)
  obtain ⟨y, y1, y2, y3, y4⟩ := h1.stp m hx
  obtain ⟨z, z1, z2, z3, z4⟩ := h2.stp m hx
  rw [← y2.eq z2] at z1
  exact ⟨y, y1, z1, y2, y3, y4⟩
end
open Classical in
def nxt (s w : Nat) (o : Int) (t : List Int) (x : Rw) : Rw := if h : ∃ y, Stp s w o t x y then h.choose else x
theorem nxt_eq {s w : Nat} {o : Int} {t : List Int} {x y : Rw} (h : Stp s w o t x y) : nxt s w o t x = y := by
  have h' : ∃ y, Stp s w o t x y := ⟨y, h⟩
  unfold nxt
  rw [dif_pos h']
  exact h'.choose_spec.eq h
def itR (f : Rw → Rw) (x : Rw) : Nat → Rw
  | 0 => x
  | n + 1 => f (itR f x n)
section
variable {s w : Nat} {o : Int} {t : List Int}
theorem nxt_ok (o : Int) {x : Rw} (m : MpV s w t) (hx : RIn s x) (hl : x.cs.length < 100000) : f_spread_image [mapD s o w t, rD x] = some (.ret true (rD (nxt s w o t x))) ∧ f__law_image [mapD s o w t, rD x] = some (.ret true (rD (nxt s w o t x))) ∧ RIn s (nxt s w o t x) ∧ (nxt s w o t x).cs.length ≤ x.cs.length + (w - 1) := by
  obtain ⟨y, h1, h2, h3, h4, h5⟩ := img_ok (o := o) m hx hl
  rw [nxt_eq h3]
  exact ⟨h1, h2, h4, h5⟩
theorem it_ok (o : Int) {x : Rw} (m : MpV s w t) (hx : RIn s x) (hl : x.cs.length ≤ 10000) : ∀ n, n ≤ 10000 → RIn s (itR (nxt s w o t) x n) ∧ (itR (nxt s w o t) x n).cs.length ≤ x.cs.length + n * (w - 1)
  | 0, _ => ⟨hx, by rw [itR]; omega⟩
  | n + 1, hn => by
    obtain ⟨h1, h2⟩ := it_ok o m hx hl n (by omega)
    have h3 : n * (w - 1) ≤ n * 5 := Nat.mul_le_mul_left n (by have := m.w6; omega)
    obtain ⟨-, -, h4, h5⟩ := nxt_ok o m h1 (by omega)
    refine ⟨h4, ?_⟩
    rw [itR, Nat.add_mul]
    omega
theorem it_len (o : Int) {x : Rw} (m : MpV s w t) (hx : RIn s x) (hl : x.cs.length ≤ 10000) {n : Nat} (hn : n ≤ 10000) : (itR (nxt s w o t) x n).cs.length < 100000 := by
  have := (it_ok o m hx hl n hn).2
  have h3 : n * (w - 1) ≤ n * 5 := Nat.mul_le_mul_left n (by have := m.w6; omega)
  omega
end
open Classical in
def retG (cut : Bool) (X : Nat → Rw) : Nat → Nat → PyData
  | 0, _ => .none
  | n + 1, k => if cut = true ∧ 500 < (X k).cs.length then .none else if (X k).b = (X 0).b ∧ (X k).cs = (X 0).cs then .tuple [.int (k : Nat), .int ((X k).st - (X 0).st)] else retG cut X n (k + 1)
theorem retG_same {X : Nat → Rw} : ∀ n k, (∀ j, k ≤ j → j < k + n → (X j).cs.length ≤ 500) → retG true X n k = retG false X n k
  | 0, _, _ => rfl
  | n + 1, k, h => by
    have h1 := h k (Nat.le_refl k) (by omega)
    rw [retG, retG, if_neg (fun h : true = true ∧ 500 < (X k).cs.length => absurd h.2 (by omega)), if_neg (fun h : false = true ∧ 500 < (X k).cs.length => nomatch h.1), retG_same n (k + 1) fun j h1 h2 => h j (by omega) (by omega)]
structure SForm (x y : Rw) : Prop where
  b : y.b = x.b
  simp : Simp y.b y.st y.cs
  cell : ∀ p, sc y.b y.st y.cs p = sc x.b x.st x.cs p
theorem SForm.eq {x y z : Rw} (h : SForm x y) (h' : SForm x z) : y = z := by
  obtain ⟨b1, st1, c1⟩ := y
  obtain ⟨b2, st2, c2⟩ := z
  have e : b1 = b2 := h.b.trans h'.b.symm
  subst e
  obtain ⟨e1, e2⟩ := simp_unique h.simp h'.simp fun p => (h.cell p).trans (h'.cell p).symm
  have e1 : st1 = st2 := e1
  have e2 : c1 = c2 := e2
  rw [e1, e2]
theorem sform_ok {s : Nat} {x : Rw} (hx : RIn s x) (hl : x.cs.length < 100000) : ∃ y, f_spread_simple [rD x] = some (.ret true (rD y)) ∧ f__law_simple [rD x] = some (.ret true (rD y)) ∧ SForm x y ∧ RIn s y ∧ y.cs.length ≤ x.cs.length := by
  obtain ⟨st1, c1, r1, r2, r3, r4, r5⟩ := spread_simple_ok (b := x.b) (st := x.st) (cs := x.cs) (by omega)
  obtain ⟨st2, c2, u1, u2, u3, u4, u5⟩ := law_simple_ok (b := x.b) (st := x.st) (cs := x.cs) (by omega)
  have h1 : SForm x ⟨x.b, st1, c1⟩ := ⟨rfl, r2, r3⟩
  have h2 : SForm x ⟨x.b, st2, c2⟩ := ⟨rfl, u2, u3⟩
  refine ⟨⟨x.b, st1, c1⟩, r1, ?_, h1, ⟨hx.1, fun c hc => hx.2 c (r4 c hc)⟩, r5⟩
  rw [h1.eq h2]; exact u1
def B_return_of_1 : SF := (sSeq (sSetZ 6 (eCall PF.f_spread_image [(eVar 0), (eVar 6)]))
  (sSeq (sIf (bOf (e2 (fD gGt) (eCB (fD1 gLen) [(e2 fIx (eVar 6) (eC (.int 2)))]) (eC (.int 500))))
  (sRet (eC .none))
  sNil)
  (sIf (bAnd (bOf (e2 (fD gEq) (e2 fIx (eVar 6) (eC (.int 0))) (eVar 3))) (bOf (e2 (fD gEq) (e2 fIx (eVar 6) (eC (.int 2))) (eVar 5))))
  (sRet (eTup [(eVar 7), (e2 (fD gSub) (e2 fIx (eVar 6) (eC (.int 1))) (eVar 4))]))
  sNil)))
def F_return_of : SF := (sSeq (sIf (bOf (e2 (fD gLt) (eVar 2) (eC (.int 0))))
  (sRaise "OutOfRange")
  sNil)
  (sSeq (sUnp [3, 4, 5] (eCall PF.f_spread_simple [(eVar 1)]))
  (sSeq (sSetZ 6 (eTup [(eVar 3), (eVar 4), (eVar 5)]))
  (sSeq (sForD [7] (iR [(eC (.int 1)), (e2 fAdd (eVar 2) (eC (.int 1)))]) (gN 7)
  PF.B_return_of_1)
  (sFg [6] (sRet (eC .none)))))))
def f_return_of : FN := callF 8 F_return_of
theorem range_off (k n : Nat) : (List.range' k (n + 1)) = k :: List.range' (k + 1) n := List.range'_succ
theorem ret_loop {s w : Nat} {o : Int} {t : List Int} {x0 : Rw} (m : MpV s w t) (hx : RIn s x0) (hl : x0.cs.length ≤ 10000) (x1 : Sl) (most : Int) : ∀ n k : Nat, k + n ≤ 10000 →
    kF (kSeq (forT (turn [7] (gN 7) B_return_of_1) ((List.range' k n).map (mkN 1)) [.val false (mapD s o w t), x1, .val true (.int most), .val true (.int x0.b), .val true (.int x0.st), .val true (.list (x0.cs.map .int)), .val true (rD (itR (nxt s w o t) x0 k)), .und]) (sFg [6] (sRet (eC .none)))) = some (.ret true (retG true (itR (nxt s w o t) x0) n (k + 1)))
  | 0, k, _ => by
    rw [List.range'_zero, List.map_nil, forT]
    simp_arith only [retG]
  | n + 1, k, hk => by
    obtain ⟨h1, h2⟩ := it_ok o m hx hl k (by omega)
    have h3 := it_len o m hx hl (n := k) (by omega)
    obtain ⟨i1, -, i2, i3⟩ := nxt_ok o m h1 h3
    have ih := ret_loop (o := o) m hx hl x1 most n (k + 1) (by omega)
    have e0 : itR (nxt s w o t) x0 (k + 1) = nxt s w o t (itR (nxt s w o t) x0 k) := rfl
    rw [e0] at ih
    rw [range_off, List.map_cons, forT, retG, e0, show itR (nxt s w o t) x0 0 = x0 from rfl]
    generalize nxt s w o t (itR (nxt s w o t) x0 k) = y at i1 i2 i3 ih ⊢
    by_cases c1 : 500 < y.cs.length
    · have c1' : (500 : Int) < ((y.cs.length : Nat) : Int) := by omega
      rw [if_pos ⟨rfl, c1⟩]
      have tn : turn [7] (gN 7) B_return_of_1 (mkN 1 k) [.val false (mapD s o w t), x1, .val true (.int most), .val true (.int x0.b), .val true (.int x0.st), .val true (.list (x0.cs.map .int)), .val true (rD (itR (nxt s w o t) x0 k)), .und] = some (.rt (.val true .none)) := by
        simp_arith only [B_return_of_1, mkN_eq, i1, atI_2, c1']
      rw [tn]
      simp_arith only []
    have c1' : ¬ (500 : Int) < ((y.cs.length : Nat) : Int) := by omega
    rw [if_neg (fun h => c1 h.2)]
    by_cases c3 : y.b = x0.b
    · by_cases c4 : y.cs = x0.cs
      · have c4' := cd_true c4
        rw [if_pos ⟨c3, c4⟩, show (((k + 1 : Nat) : Nat) : Int) = 1 + (k : Int) by omega]
        have tn : turn [7] (gN 7) B_return_of_1 (mkN 1 k) [.val false (mapD s o w t), x1, .val true (.int most), .val true (.int x0.b), .val true (.int x0.st), .val true (.list (x0.cs.map .int)), .val true (rD (itR (nxt s w o t) x0 k)), .und] = some (.rt (.val true (.tuple [.int (1 + (k : Int)), .int (y.st - x0.st)]))) := by
          simp_arith only [B_return_of_1, mkN_eq, i1, atI_0, atI_1, atI_2, c1', c3, c4', gEq_ints2]
        rw [tn]
        simp_arith only []
      · have c4' := cd_false c4
        rw [if_neg (fun h => c4 h.2)]
        have tn : turn [7] (gN 7) B_return_of_1 (mkN 1 k) [.val false (mapD s o w t), x1, .val true (.int most), .val true (.int x0.b), .val true (.int x0.st), .val true (.list (x0.cs.map .int)), .val true (rD (itR (nxt s w o t) x0 k)), .und] = some (.nx [.val false (mapD s o w t), x1, .val true (.int most), .val true (.int x0.b), .val true (.int x0.st), .val true (.list (x0.cs.map .int)), .val true (rD y), .und]) := by
          simp_arith only [B_return_of_1, rD, spD, mkN_eq, i1, atI_0, atI_1, atI_2, c1', c3, c4', gEq_ints2]
        rw [tn]
        exact ih
    · rw [if_neg (fun h => c3 h.1)]
      have tn : turn [7] (gN 7) B_return_of_1 (mkN 1 k) [.val false (mapD s o w t), x1, .val true (.int most), .val true (.int x0.b), .val true (.int x0.st), .val true (.list (x0.cs.map .int)), .val true (rD (itR (nxt s w o t) x0 k)), .und] = some (.nx [.val false (mapD s o w t), x1, .val true (.int most), .val true (.int x0.b), .val true (.int x0.st), .val true (.list (x0.cs.map .int)), .val true (rD y), .und]) := by
        simp_arith only [B_return_of_1, mkN_eq, i1, atI_0, atI_1, atI_2, c1', c3, gEq_ints2]
      rw [tn]
      exact ih
theorem return_ok {s w : Nat} {o : Int} {t : List Int} {x x0 : Rw} {most : Nat} (m : MpV s w t) (hx : RIn s x) (hl : x.cs.length ≤ 10000) (hf : SForm x x0) (hm : most ≤ 9000) : f_return_of [mapD s o w t, rD x, .int most] = some (.ret true (retG true (itR (nxt s w o t) x0) most 1)) := by
  obtain ⟨y, y1, y2, y3, y4, y5⟩ := sform_ok hx (by omega)
  rw [y3.eq hf] at y1 y4 y5
  have b : x0.b = x.b := hf.b
  have n1 : ¬ (most : Int) < 0 := by omega
  have r1 : small62 1 = true := small62_ok (by omega) (by omega)
  have r2 : small62 ((most : Int) + 1) = true := small62_ok (by omega) (by omega)
  have e1 : ((most : Int) + 1 - 1).toNat = most := by omega
  have lp := ret_loop (o := o) m y4 (by omega) (.val false (rD x)) most most 0 (by omega)
  rw [← List.range_eq_range'] at lp
  rw [← lp]
  simp_arith only [f_return_of, F_return_of, n1, y1, r1, r2, rngI_eq, e1]
  rfl
end
end PF
namespace PF
open PySem PySem.Spec PyProof.Rows L2 PL
noncomputable section
theorem newC1 (s : Nat) (t : List Int) (a : Int) : newC s t [a] = t.getD a.toNat 0 := by
  unfold newC idx
  rw [List.foldl_cons, List.foldl_nil, Int.zero_mul, Int.zero_add]
theorem swin1 (b st : Int) (cs : List Int) (p : Int) : swin b st cs p 1 = [sc b st cs p] := by
  show [sc b st cs (p + 0)] = _
  rw [Int.add_zero]
theorem sc_shift (b st o : Int) (cs : List Int) (p : Int) : sc b (st - o) cs p = sc b st cs (p + o) := by
  unfold sc
  by_cases h : st ≤ p + o ∧ p + o < st + cs.length
  · rw [if_pos h, if_pos (by omega), show p - (st - o) = p + o - st by omega]
  · rw [if_neg h, if_neg (by omega)]
end
end PF
namespace PF
open PySem PySem.Spec PyProof.Rows L2 PL
noncomputable section
def T__law_plain_v1_1 (frec : FN) : BF := (bNot (tOf (eCall frec [(eVar 1)])))
def F__law_plain_v1 (frec : FN) : SF := (sSeq (sIf (tOf (eIsLT (eVar 0)))
  (sRet (e2 (fD gEq) (eCB (fD1 gLen) [(eLc (iS (eVar 0)) [1] (gN 1) (PF.T__law_plain_v1_1 frec) (eVar 1))]) (eC (.int 0))))
  sNil)
  (sRet (eNot (eIsa PyData.isBool (eVar 0)))))
def f__law_plain_v1_0 : FN := fun _ => none
def f__law_plain_v1_1 : FN := callF 2 (F__law_plain_v1 f__law_plain_v1_0)
def f__law_plain_v1_2 : FN := callF 2 (F__law_plain_v1 f__law_plain_v1_1)
def f__law_plain_v1_3 : FN := callF 2 (F__law_plain_v1 f__law_plain_v1_2)
def f__law_plain_v1_4 : FN := callF 2 (F__law_plain_v1 f__law_plain_v1_3)
def f__law_plain_v1_5 : FN := callF 2 (F__law_plain_v1 f__law_plain_v1_4)
def f__law_plain_v1_6 : FN := callF 2 (F__law_plain_v1 f__law_plain_v1_5)
abbrev f__law_plain_v1 : FN := f__law_plain_v1_6
end
end PF
namespace PF
open PySem PySem.Spec PyProof.Rows L2 PL
noncomputable section
theorem retG_kind (cut : Bool) (X : Nat → Rw) : ∀ n k, retG cut X n k = .none ∨ ∃ i j : Int, retG cut X n k = .tuple [.int i, .int j]
  | 0, _ => .inl rfl
  | n + 1, k => by
    rw [retG]
    split
    · exact .inl rfl
    · split
      · exact .inr ⟨_, _, rfl⟩
      · exact retG_kind cut X n (k + 1)
theorem map_rep {s w : Nat} {o : Int} {t : List Int} (h : VMap s o w t) : gRepr (mapD s o w t) = some (.str (mapD s o w t).shown) := by
  refine gRepr_ok (mapD_okR h) ?_ ?_
  · have h1 := pow46 h.s4 h.w6 (by have := h.s2; omega)
    have h2 := h.len
    rw [mapD_nn]; omega
  · rw [mapD_depth]; omega
end
end PF
namespace PF
open PySem PySem.Spec PyProof.Rows L2 PL
noncomputable section
theorem mkv_any (fr : Bool) (d : PyData) : ∃ b, mkv fr d = .val b d := by
  cases d <;> cases fr <;> exact ⟨_, rfl⟩
theorem pl_int (frec : FN) (i : Int) : callF 2 (F__law_plain_v1 frec) [.int i] = some (.ret true (.bool true)) := by
  simp_arith only [F__law_plain_v1]
  rfl
theorem pl_walk (frec : FN) (x0 : Sl) (fr : Bool) (ds : List PyData) (h : ∀ d ∈ ds, frec [d] = some (.ret true (.bool true))) : lcL (gN 1) (T__law_plain_v1_1 frec) (eVar 1) [x0, .und] (ds.map (mkv fr)) = some (true, []) := by
  induction ds with
  | nil => rfl
  | cons d ds ih =>
    obtain ⟨b, hb⟩ := mkv_any fr d
    have hd := h d List.mem_cons_self
    rw [List.map_cons, hb, lcL_skip (by simp_arith only [T__law_plain_v1_1, hd])]
    exact ih fun d' hd' => h d' (List.mem_cons_of_mem _ hd')
theorem pl_list (frec : FN) (ds : List PyData) (h : ∀ d ∈ ds, frec [d] = some (.ret true (.bool true))) : callF 2 (F__law_plain_v1 frec) [.list ds] = some (.ret true (.bool true)) := by
  have k := pl_walk frec (.val false (.list ds)) false ds h
  simp_arith only [F__law_plain_v1, k]
theorem pl_tup (frec : FN) (ds : List PyData) (h : ∀ d ∈ ds, frec [d] = some (.ret true (.bool true))) : callF 2 (F__law_plain_v1 frec) [.tuple ds] = some (.ret true (.bool true)) := by
  have k := pl_walk frec (.val false (.tuple ds)) false ds h
  simp_arith only [F__law_plain_v1, k]
/-- one pattern -/
structure Pt where
  w : List Int
  t : Int
  m : Int
def ptD (x : Pt) : PyData := .tuple [.list (x.w.map .int), .int x.t, .int x.m]
theorem plain_pts (L : List Pt) : f__law_plain_v1 [.list (L.map ptD)] = some (.ret true (.bool true)) := by
  refine pl_list _ _ fun d hd => ?_
  obtain ⟨x, -, rfl⟩ := List.mem_map.mp hd
  refine pl_tup _ _ fun e he => ?_
  simp only [List.mem_cons, List.not_mem_nil, or_false] at he
  rcases he with rfl | rfl | rfl
  · refine pl_list _ _ fun c hc => ?_
    obtain ⟨i, -, rfl⟩ := List.mem_map.mp hc
    exact pl_int _ _
  · exact pl_int _ _
  · exact pl_int _ _
theorem okIt_pts (L : List Pt) (h : ∀ x ∈ L, x.w.length ≤ 100) : (L.map ptD).all (okIt 100) = true := by
  rw [List.all_eq_true]
  intro d hd
  obtain ⟨x, hx, rfl⟩ := List.mem_map.mp hd
  have hi : ∀ w : List Int, (w.map PyData.int).all isIntD = true := fun w => by
    rw [List.all_eq_true]
    intro c hc
    obtain ⟨i, -, rfl⟩ := List.mem_map.mp hc
    rfl
  show ((x.w.map PyData.int).all isIntD && decide ((x.w.map PyData.int).length ≤ 100) && _) = true
  rw [hi, decide_eq_true (by rw [List.length_map]; exact h x hx)]
  rfl
theorem plainA_pts (L : List Pt) : PyData.plainAll (L.map ptD) = true := by
  induction L with
  | nil => rfl
  | cons x L ih =>
    rw [List.map_cons, PyData.plainAll, ih]
    simp only [ptD, PyData.plain, PyData.plainAll, plain_ints]
    rfl
theorem depthA_pts (L : List Pt) : PyData.depthAll (L.map ptD) ≤ 5 := by
  induction L with
  | nil => simp only [List.map_nil, PyData.depthAll]; omega
  | cons x L ih =>
    rw [List.map_cons, PyData.depthAll]
    simp only [ptD, PyData.depth, PyData.depthAll, depths_ints]
    omega
theorem pts_ne (L : List Pt) : gNe (.list (L.map ptD)) (.list (L.map ptD)) = some (.bool false) := gNe_self (by rw [PyData.plain]; exact plainA_pts L) (by have := depthA_pts L; rw [PyData.depth]; omega)
theorem map_flat {α β γ : Type} (l : List α) (f : α → List β) (g : β → γ) : (l.flatMap f).map g = l.flatMap fun a => (f a).map g := by
  induction l with
  | nil => rfl
  | cons a l ih => rw [List.flatMap_cons, List.map_append, ih, List.flatMap_cons]
theorem range_mul (a b : Nat) : List.range (a * b) = (List.range a).flatMap fun k => (List.range b).map fun c => k * b + c := by
  induction a with
  | zero => rw [Nat.zero_mul]; rfl
  | succ a ih =>
    rw [Nat.add_mul, Nat.one_mul, List.range_succ, List.flatMap_append, ← ih, List.flatMap_singleton, List.range_add]
theorem wrd_dig {s : Nat} (hs : 0 < s) : ∀ n, wrd s n = (List.range (s ^ n)).map fun (k : Nat) => dig s n k
  | 0 => rfl
  | n + 1 => by
    rw [wrd, wrd_dig hs n, Nat.pow_succ, range_mul, List.flatMap_map, map_flat]
    congr 1
    funext k
    unfold ext1
    rw [List.map_map]
    refine List.map_congr_left fun c hc => ?_
    rw [List.mem_range] at hc
    have e1 : ((k * s + c : Nat) : Int) / (s : Int) = (k : Int) := by
      rw [← Int.natCast_ediv, show (k * s + c) / s = k by rw [Nat.mul_comm, Nat.mul_add_div hs, Nat.div_eq_of_lt hc, Nat.add_zero]]
    have e2 : ((k * s + c : Nat) : Int) % (s : Int) = (c : Int) := by
      rw [← Int.natCast_emod, show (k * s + c) % s = c by rw [Nat.mul_comm, Nat.mul_add_mod, Nat.mod_eq_of_lt hc]]
    show dig s n k ++ [(c : Int)] = dig s (n + 1) ((k * s + c : Nat) : Int)
    rw [dig_succ, e1, e2]
/-- neither begins nor ends with 0 -/
def Ends (w : List Int) : Prop := ∃ h : w ≠ [], w.head h ≠ 0 ∧ w.getLast h ≠ 0
theorem dig_last {s n : Nat} (k : Nat) (h : dig s (n + 1) k ≠ []) : (dig s (n + 1) k).getLast h = ((k % s : Nat) : Int) := by
  simp only [dig_succ, List.getLast_concat, Int.natCast_emod]
theorem dig_head {s : Nat} (hs : 0 < s) : ∀ (n k : Nat) (_ : k < s ^ (n + 1)) (h : dig s (n + 1) k ≠ []), (dig s (n + 1) k).head h = ((k / s ^ n : Nat) : Int)
  | 0, k, hk, h => by
    have e : dig s 1 k = [((k % s : Nat) : Int)] := by rw [dig_succ, Int.natCast_emod]; rfl
    rw [Nat.pow_succ, Nat.pow_zero, Nat.one_mul] at hk
    simp only [e, List.head_cons, Nat.mod_eq_of_lt hk, Nat.pow_zero, Nat.div_one]
  | n + 1, k, hk, h => by
    have e : dig s (n + 2) k = dig s (n + 1) ((k / s : Nat) : Int) ++ [(k : Int) % s] := by rw [dig_succ, Int.natCast_ediv]
    have hne : dig s (n + 1) ((k / s : Nat) : Int) ≠ [] := by
      intro z
      have := congrArg List.length z
      rw [dig_len, List.length_nil] at this
      omega
    have hk' : k / s < s ^ (n + 1) := by
      rw [Nat.div_lt_iff_lt_mul hs, ← Nat.pow_succ]; exact hk
    have ih := dig_head hs n (k / s) hk' hne
    simp only [e, List.head_append_of_ne_nil hne, ih, Nat.div_div_eq_div_mul, Nat.pow_succ, Nat.mul_comm]
theorem ends_dig {s n k : Nat} (hs : 0 < s) (hk : k < s ^ (n + 1)) : Ends (dig s (n + 1) k) ↔ s ^ n ≤ k ∧ k % s ≠ 0 := by
  have hne : dig s (n + 1) k ≠ [] := by
    intro z
    have := congrArg List.length z
    rw [dig_len, List.length_nil] at this
    omega
  have e1 := dig_head hs n k hk hne
  have e2 := dig_last (s := s) (n := n) k hne
  have hp : 0 < s ^ n := Nat.pow_pos hs
  have e3 : k / s ^ n ≠ 0 ↔ s ^ n ≤ k := by
    rw [Nat.ne_zero_iff_zero_lt, Nat.div_pos_iff]
    omega
  constructor
  · rintro ⟨h, h1, h2⟩
    rw [e1] at h1
    rw [e2] at h2
    exact ⟨e3.mp (by omega), by omega⟩
  · rintro ⟨h1, h2⟩
    have h1 := e3.mpr h1
    refine ⟨hne, ?_, ?_⟩
    · rw [e1]; omega
    · rw [e2]; omega
end
end PF
namespace PF
open PySem PySem.Spec PyProof.Rows L2 PL
noncomputable section
section
variable (s w : Nat) (o : Int) (t : List Int) (most : Nat)
def hits (v : List Int) : List Pt := match retG false (itR (nxt s w o t) ⟨0, 0, v⟩) most 1 with
  | .tuple [.int a, .int b] => [⟨v, a, b⟩]
  | _ => []
open Classical in
def foundN (n : Nat) : List Pt := (wrd s n).flatMap fun v => if Ends v then hits s w o t most v else []
def foundL (len : Nat) : List Pt := (List.range len).flatMap fun i => foundN s w o t most (i + 1)
end
theorem hits_len (s w : Nat) (o : Int) (t : List Int) (most : Nat) (v : List Int) : (hits s w o t most v).length ≤ 1 := by
  unfold hits
  split
  · exact Nat.le_refl 1
  · exact Nat.zero_le 1
theorem flat_le {α β : Type} {g : α → List β} {k : Nat} : ∀ (l : List α), (∀ a ∈ l, (g a).length ≤ k) → (l.flatMap g).length ≤ l.length * k
  | [], _ => by rw [List.flatMap_nil, List.length_nil, List.length_nil, Nat.zero_mul]; omega
  | a :: l, h => by
    have h1 := h a List.mem_cons_self
    have h2 := flat_le l fun b hb => h b (List.mem_cons_of_mem _ hb)
    rw [List.flatMap_cons, List.length_append, List.length_cons, Nat.add_mul]; omega
theorem foundN_len (s w : Nat) (o : Int) (t : List Int) (most n : Nat) : (foundN s w o t most n).length ≤ s ^ n := by
  have := flat_le (k := 1) (wrd s n) (g := fun v => open Classical in if Ends v then hits s w o t most v else []) fun v _ => by
    split
    · exact hits_len s w o t most v
    · exact Nat.zero_le 1
  rw [wrd_len, Nat.mul_one] at this
  exact this
theorem pow_le' {s : Nat} (hs : 0 < s) {a b : Nat} (h : a ≤ b) : s ^ a ≤ s ^ b := Nat.pow_le_pow_right hs h
theorem foundL_len (s w : Nat) (o : Int) (t : List Int) (most len : Nat) (hs : 0 < s) : (foundL s w o t most len).length ≤ len * s ^ len := by
  have := flat_le (k := s ^ len) (List.range len) (g := fun i => foundN s w o t most (i + 1)) fun i hi => by
    rw [List.mem_range] at hi
    exact Nat.le_trans (foundN_len ..) (pow_le' hs (by omega))
  rw [List.length_range] at this
  exact this
theorem ret_word {s w : Nat} {o : Int} {t : List Int} {v : List Int} {most : Nat} (m : MpV s w t) (hv : ∀ c ∈ v, 0 ≤ c ∧ c < (s : Int)) (he : Ends v) (hl : v.length + most * (w - 1) ≤ 500) (hm : most ≤ 500) : f_return_of [mapD s o w t, .tuple [.int 0, .int 0, .list (v.map .int)], .int most] = some (.ret true (retG false (itR (nxt s w o t) ⟨0, 0, v⟩) most 1)) := by
  obtain ⟨hne, h1, h2⟩ := he
  have hx : RIn s ⟨0, 0, v⟩ := ⟨⟨Int.le_refl 0, by show (0 : Int) < _; have := m.s0; omega⟩, hv⟩
  have r : f_return_of [mapD s o w t, .tuple [.int 0, .int 0, .list (v.map .int)], .int most] = _ := return_ok (o := o) (x := ⟨0, 0, v⟩) (x0 := ⟨0, 0, v⟩) m hx (show v.length ≤ 10000 by omega) ⟨rfl, .inr ⟨hne, h1, h2⟩, fun _ => rfl⟩ (by omega)
  rw [r, retG_same most 1 fun j j1 j2 => by
    have := (it_ok o m hx (show v.length ≤ 10000 by omega) j (by omega)).2
    have h3 : j * (w - 1) ≤ most * (w - 1) := Nat.mul_le_mul_right _ (by omega)
    have h4 : (itR (nxt s w o t) ⟨0, 0, v⟩ j).cs.length ≤ v.length + j * (w - 1) := this
    omega]
def B_patterns_1 : SF := (sIf (bOf (e2 (fD gNe) (e2 (fD gMod) (eVar 6) (eVar 3)) (eC (.int 0))))
  (sSeq (sSetZ 7 (eCall PF.f_digits_of [(eVar 3), (eVar 6), (eVar 5)]))
  (sSeq (sSetZ 8 (eCallK PF.f_return_of [(eVar 0), (eTup [(eC (.int 0)), (eC (.int 0)), (eVar 7)])] (eVar 2)))
  (sIf (bOf (e2 (fD (gIs true)) (eVar 8) (eC .none)))
  (sApp 4 (eTup [(eVar 7), (e2 fIx (eVar 8) (eC (.int 0))), (e2 fIx (eVar 8) (eC (.int 1)))]))
  sNil)))
  sNil)
def B_patterns_2 : SF := (sForD [6, 7, 8] (iR [(eCall PF.f_count_words [(eVar 3), (e2 (fD gSub) (eVar 5) (eC (.int 1)))]), (eCall PF.f_count_words [(eVar 3), (eVar 5)])]) (gN 6)
  PF.B_patterns_1)
def F_patterns : SF := (sSeq (sIf (bOr (bOf (e2 (fD gLt) (eVar 1) (eC (.int 0)))) (bOf (e2 (fD gLt) (eVar 2) (eC (.int 0)))))
  (sRaise "OutOfRange")
  sNil)
  (sSeq (sSetZ 3 (e2 fIx (eVar 0) (eC (.int 0))))
  (sSeq (sIf (bOf (e2 (fD gGt) (eCall PF.f_count_words [(eVar 3), (eCB (fI2 iMin) [(eVar 1), (eC (.int 20))])]) (eC (.int 4096))))
  (sRaise "TooLong")
  sNil)
  (sSeq (sSet 4 (eList []))
  (sSeq (sForD [5, 6, 7, 8] (iR [(eC (.int 1)), (e2 fAdd (eVar 1) (eC (.int 1)))]) (gN 5)
  PF.B_patterns_2)
  (sRetOwn 4))))))
def f_patterns : FN := callF 9 F_patterns
abbrev pE (s w : Nat) (o : Int) (t : List Int) (len most : Nat) (b : List PyData) (c : Sl) : Ev := [.val false (mapD s o w t), .val true (.int len), .val true (.int most), .val true (.int s), .own true b, c, .und, .und, .und]
theorem hits_none {s w : Nat} {o : Int} {t : List Int} {most : Nat} {v : List Int} (h : retG false (itR (nxt s w o t) ⟨0, 0, v⟩) most 1 = .none) : hits s w o t most v = [] := by unfold hits; rw [h]
theorem hits_some {s w : Nat} {o : Int} {t : List Int} {most : Nat} {v : List Int} {a b : Int} (h : retG false (itR (nxt s w o t) ⟨0, 0, v⟩) most 1 = .tuple [.int a, .int b]) : hits s w o t most v = [⟨v, a, b⟩] := by unfold hits; rw [h]
theorem pat_num {s w : Nat} {o : Int} {t : List Int} {len most n : Nat} (m : MpV s w t) (hz : s ^ (n + 1) ≤ 4096) (hl : n + 1 + most * (w - 1) ≤ 500) (hm : most ≤ 500) (i : Nat) (hi : s ^ n + i < s ^ (n + 1)) (b : List PyData) (hb : b.length < 16000000) :
    turn [6, 7, 8] (gN 6) B_patterns_1 (mkN ((s ^ n : Nat) : Int) i) (pE s w o t len most b (.val true (.int ((n + 1 : Nat) : Int)))) = some (.nx (pE s w o t len most (b ++ (if (s ^ n + i) % s ≠ 0 then hits s w o t most (dig s (n + 1) ((s ^ n + i : Nat) : Int)) else []).map ptD) (.val true (.int ((n + 1 : Nat) : Int))))) := by
  have s0 := m.s0
  have s4 := m.s4
  have zb : b.length < 16777216 := by omega
  have e0 : ((s ^ n : Nat) : Int) + (i : Int) = ((s ^ n + i : Nat) : Int) := by omega
  have e1 : ((s ^ n + i : Nat) : Int) % (s : Int) = (((s ^ n + i) % s : Nat) : Int) := by omega
  have sp : (0 : Int) < s := by omega
  generalize hk : s ^ n + i = k at *
  by_cases c : k % s ≠ 0
  · rw [if_pos c]
    have c' : ¬ ((k % s : Nat) : Int) = 0 := by omega
    have dg := digits_of_ok (k : Int) s (n + 1) s0 (by omega) (by
      have : n < 2 ^ n := Nat.lt_two_pow_self
      omega)
    have he : Ends (dig s (n + 1) (k : Int)) := (ends_dig s0 hi).mpr ⟨by omega, c⟩
    have r := ret_word (o := o) (v := dig s (n + 1) (k : Int)) (most := most) m (dig_in (by omega) _ _) he (by rw [dig_len]; exact hl) hm
    rcases retG_kind false (itR (nxt s w o t) ⟨0, 0, dig s (n + 1) (k : Int)⟩) most 1 with e | ⟨x, y, e⟩
    · rw [hits_none e]
      rw [e] at r
      simp_arith only [pE, B_patterns_1, List.cons_append, mkN_eq, e0, e1, sp, c', dg, r, List.append_nil]
    · rw [hits_some e]
      rw [e] at r
      simp_arith only [pE, B_patterns_1, List.cons_append, mkN_eq, e0, e1, sp, c', dg, r, atI_0, atI_1, zb, ptD]
  · rw [if_neg c]
    have c' : ((k % s : Nat) : Int) = 0 := by omega
    simp_arith only [pE, B_patterns_1, List.cons_append, mkN_eq, e0, e1, sp, c', List.append_nil]
theorem found_num {s w : Nat} {o : Int} {t : List Int} {most n : Nat} (hs : 0 < s) : (List.range (s ^ (n + 1) - s ^ n)).flatMap (fun i => if (s ^ n + i) % s ≠ 0 then hits s w o t most (dig s (n + 1) ((s ^ n + i : Nat) : Int)) else []) = foundN s w o t most (n + 1) := by
  have hle : s ^ n ≤ s ^ (n + 1) := pow_le' hs (by omega)
  unfold foundN
  rw [wrd_dig hs, List.flatMap_map]
  obtain ⟨d, hd⟩ : ∃ d, s ^ (n + 1) = s ^ n + d := ⟨s ^ (n + 1) - s ^ n, by omega⟩
  have key : ∀ k, k < s ^ (n + 1) → (open Classical in if Ends (dig s (n + 1) (k : Int)) then hits s w o t most (dig s (n + 1) (k : Int)) else []) = if s ^ n ≤ k ∧ k % s ≠ 0 then hits s w o t most (dig s (n + 1) (k : Int)) else [] := fun k hk => by
    by_cases c : s ^ n ≤ k ∧ k % s ≠ 0
    · rw [if_pos c, if_pos ((ends_dig hs hk).mpr c)]
    · rw [if_neg c, if_neg (fun z => c ((ends_dig hs hk).mp z))]
  have step : ∀ l : List Nat, (∀ k ∈ l, k < s ^ (n + 1)) → (l.flatMap fun (k : Nat) => open Classical in if Ends (dig s (n + 1) (k : Int)) then hits s w o t most (dig s (n + 1) (k : Int)) else []) = l.flatMap fun (k : Nat) => if s ^ n ≤ k ∧ k % s ≠ 0 then hits s w o t most (dig s (n + 1) (k : Int)) else [] := fun l h => by
    induction l with
    | nil => rfl
    | cons a l ih => rw [List.flatMap_cons, List.flatMap_cons, key a (h a List.mem_cons_self), ih fun b hb => h b (List.mem_cons_of_mem _ hb)]
  rw [step _ fun k hk => List.mem_range.mp hk, hd, List.range_add, List.flatMap_append, Nat.add_sub_cancel_left, List.flatMap_map]
  have z : ((List.range (s ^ n)).flatMap fun (k : Nat) => if s ^ n ≤ k ∧ k % s ≠ 0 then hits s w o t most (dig s (n + 1) (k : Int)) else []) = [] := by
    rw [List.flatMap_eq_nil_iff]
    intro k hk
    rw [List.mem_range] at hk
    exact if_neg (by omega)
  rw [z, List.nil_append]
  congr 1
  funext i
  by_cases c : (s ^ n + i) % s ≠ 0
  · rw [if_pos c, if_pos ⟨by omega, c⟩]
  · rw [if_neg c, if_neg (fun z => c z.2)]
theorem patterns_ok {s w : Nat} {o : Int} {t : List Int} {len most : Nat} (m : MpV s w t) (s2 : 2 ≤ s) (hz : s ^ len ≤ 4096) (hl20 : len ≤ 20) (hl : len + most * (w - 1) ≤ 500) (hm : most ≤ 500) : f_patterns [mapD s o w t, .int len, .int most] = some (.ret true (.list ((foundL s w o t most len).map ptD))) := by
  have s0 := m.s0
  have s4 := m.s4
  have n1 : ¬ (len : Int) < 0 := by omega
  have n2 : ¬ (most : Int) < 0 := by omega
  have mn : iMin (len : Int) 20 = (len : Int) := by unfold iMin; split <;> omega
  have cw := fun n (hn : n ≤ 1000) => count_words_ok s n (by omega) (by omega)
  have c1 : ¬ (4096 : Int) < ((s ^ len : Nat) : Int) := by omega
  have r1 : small62 1 = true := small62_ok (by omega) (by omega)
  have r2 : small62 ((len : Int) + 1) = true := small62_ok (by omega) (by omega)
  have e1 : ((len : Int) + 1 - 1).toNat = len := by omega
  have outer := forT_app (tn := turn [5, 6, 7, 8] (gN 5) B_patterns_2) (mk := mkN 1) (enc := fun b => pE s w o t len most b .und) (g := fun i => (foundN s w o t most (i + 1)).map ptD) 1000000 (List.range len) [] (by
    rw [← map_flat, List.length_map]
    have := foundL_len s w o t most len s0
    have h2 : len * s ^ len ≤ 20 * 4096 := Nat.mul_le_mul hl20 hz
    show 0 + (foundL s w o t most len).length ≤ _
    omega) fun i hi b hb => by
    rw [List.mem_range] at hi
    have p1 : s ^ (i + 1) ≤ s ^ len := pow_le' s0 (by omega)
    have p2 : s ^ i ≤ s ^ (i + 1) := pow_le' s0 (by omega)
    have q1 := cw i (by omega)
    have q2 := cw (i + 1) (by omega)
    have r3 : small62 ((s ^ i : Nat) : Int) = true := small62_ok (by omega) (by omega)
    have r4 : small62 ((s ^ (i + 1) : Nat) : Int) = true := small62_ok (by omega) (by omega)
    have e2 : (1 : Int) + (i : Int) = ((i + 1 : Nat) : Int) := by omega
    have e3 : ((i + 1 : Nat) : Int) - 1 = (i : Int) := by omega
    have e4 : (((s ^ (i + 1) : Nat) : Int) - ((s ^ i : Nat) : Int)).toNat = s ^ (i + 1) - s ^ i := by omega
    have inner := forT_app (tn := turn [6, 7, 8] (gN 6) B_patterns_1) (mk := mkN ((s ^ i : Nat) : Int)) (enc := fun b => pE s w o t len most b (.val true (.int ((i + 1 : Nat) : Int)))) (g := fun j => (if (s ^ i + j) % s ≠ 0 then hits s w o t most (dig s (i + 1) ((s ^ i + j : Nat) : Int)) else []).map ptD) 1000000 (List.range (s ^ (i + 1) - s ^ i)) b (by
      rw [← map_flat, found_num s0]
      exact hb) fun j hj b hb => by
      rw [List.mem_range] at hj
      exact pat_num m (by omega) (by omega) hm j (by omega) b (by omega)
    rw [← map_flat, found_num s0] at inner
    simp_arith only [B_patterns_2, mkN_eq, e2, e3, q1, q2, r3, r4, rngI_eq, e4, inner]
  rw [← map_flat, List.nil_append] at outer
  simp_arith only [f_patterns, F_patterns, n1, n2, mn, atI_0, cw len (by omega), c1, r1, r2, rngI_eq, e1, outer]
  rfl
end
end PF
namespace PF
open PySem PySem.Spec PyProof.Rows L2 PL
noncomputable section
def B__law_return_1 : SF := (sSeq (sSetZ 3 (eCall PF.f__law_image [(eVar 0), (eVar 3)]))
  (sIf (bAnd (bOf (e2 (fD gEq) (e2 fIx (eVar 3) (eC (.int 0))) (eC (.int 0)))) (bOf (e2 (fD gEq) (e2 fIx (eVar 3) (eC (.int 2))) (eVar 1))))
  (sRet (eTup [(eVar 4), (e2 fIx (eVar 3) (eC (.int 1)))]))
  sNil))
def F__law_return : SF := (sSeq (sSetZ 3 (eTup [(eC (.int 0)), (eC (.int 0)), (eVar 1)]))
  (sSeq (sForD [4] (iR [(eC (.int 1)), (e2 fAdd (eVar 2) (eC (.int 1)))]) (gN 4)
  PF.B__law_return_1)
  (sFg [3] (sRet (eC .none)))))
def f__law_return : FN := callF 5 F__law_return
theorem lret_loop {s w : Nat} {o : Int} {t : List Int} {v : List Int} (m : MpV s w t) (hx : RIn s ⟨0, 0, v⟩) (hl : v.length ≤ 10000) (most : Int) : ∀ (n k : Nat) (fl : Bool), k + n ≤ 10000 →
    kF (kSeq (forT (turn [4] (gN 4) B__law_return_1) ((List.range' k n).map (mkN 1)) [.val false (mapD s o w t), .val false (wD v), .val true (.int most), .val fl (rD (itR (nxt s w o t) ⟨0, 0, v⟩ k)), .und]) (sFg [3] (sRet (eC .none)))) = some (.ret true (retG false (itR (nxt s w o t) ⟨0, 0, v⟩) n (k + 1)))
  | 0, k, fl, _ => by
    rw [List.range'_zero, List.map_nil, forT]
    simp_arith only [retG]
  | n + 1, k, fl, hk => by
    obtain ⟨h1, h2⟩ := it_ok o m hx hl k (by omega)
    have h3 := it_len o m hx hl (n := k) (by omega)
    obtain ⟨-, i1, i2, i3⟩ := nxt_ok o m h1 h3
    have ih := lret_loop (o := o) m hx hl most n (k + 1) true (by omega)
    have e0 : itR (nxt s w o t) ⟨0, 0, v⟩ (k + 1) = nxt s w o t (itR (nxt s w o t) ⟨0, 0, v⟩ k) := rfl
    rw [e0] at ih
    rw [range_off, List.map_cons, forT, retG, e0, show itR (nxt s w o t) ⟨0, 0, v⟩ 0 = ⟨0, 0, v⟩ from rfl, if_neg (fun h => nomatch h.1)]
    generalize nxt s w o t (itR (nxt s w o t) ⟨0, 0, v⟩ k) = y at i1 i2 i3 ih ⊢
    by_cases c3 : y.b = 0
    · by_cases c4 : y.cs = v
      · have c4' := cd_true c4
        rw [if_pos ⟨c3, c4⟩, show (((k + 1 : Nat) : Nat) : Int) = 1 + (k : Int) by omega]
        have tn : turn [4] (gN 4) B__law_return_1 (mkN 1 k) [.val false (mapD s o w t), .val false (wD v), .val true (.int most), .val fl (rD (itR (nxt s w o t) ⟨0, 0, v⟩ k)), .und] = some (.rt (.val true (.tuple [.int (1 + (k : Int)), .int y.st]))) := by
          simp_arith only [B__law_return_1, mkN_eq, i1, atI_0, atI_1, atI_2, c3, c4', gEq_ints2]
        rw [tn]
        simp_arith only [Int.sub_zero]
      · have c4' := cd_false c4
        rw [if_neg (fun h => c4 h.2)]
        have tn : turn [4] (gN 4) B__law_return_1 (mkN 1 k) [.val false (mapD s o w t), .val false (wD v), .val true (.int most), .val fl (rD (itR (nxt s w o t) ⟨0, 0, v⟩ k)), .und] = some (.nx [.val false (mapD s o w t), .val false (wD v), .val true (.int most), .val true (rD y), .und]) := by
          simp_arith only [B__law_return_1, rD, spD, mkN_eq, i1, atI_0, atI_1, atI_2, c3, c4', gEq_ints2]
        rw [tn]
        exact ih
    · rw [if_neg (fun h => c3 h.1)]
      have tn : turn [4] (gN 4) B__law_return_1 (mkN 1 k) [.val false (mapD s o w t), .val false (wD v), .val true (.int most), .val fl (rD (itR (nxt s w o t) ⟨0, 0, v⟩ k)), .und] = some (.nx [.val false (mapD s o w t), .val false (wD v), .val true (.int most), .val true (rD y), .und]) := by
        simp_arith only [B__law_return_1, rD, spD, mkN_eq, i1, atI_0, atI_1, atI_2, c3, gEq_ints2]
      rw [tn]
      exact ih
theorem lret_ok {s w : Nat} {o : Int} {t : List Int} {v : List Int} {most : Nat} (m : MpV s w t) (hv : ∀ c ∈ v, 0 ≤ c ∧ c < (s : Int)) (hl : v.length ≤ 1000) (hm : most ≤ 9000) : f__law_return [mapD s o w t, wD v, .int most] = some (.ret true (retG false (itR (nxt s w o t) ⟨0, 0, v⟩) most 1)) := by
  have r1 : small62 1 = true := small62_ok (by omega) (by omega)
  have r2 : small62 ((most : Int) + 1) = true := small62_ok (by omega) (by omega)
  have e1 : ((most : Int) + 1 - 1).toNat = most := by omega
  have lp := lret_loop (o := o) (v := v) m ⟨⟨Int.le_refl 0, by show (0 : Int) < _; have := m.s0; omega⟩, hv⟩ (by omega) most most 0 false (by omega)
  rw [← List.range_eq_range'] at lp
  rw [← lp]
  simp_arith only [f__law_return, F__law_return, r1, r2, rngI_eq, e1]
  rfl
theorem patterns_neg {m : PyData} {len most : Int} (h : len < 0 ∨ most < 0) : f_patterns [m, .int len, .int most] = some (.exc "OutOfRange") := by
  by_cases c : len < 0
  · cases m <;> simp_arith only [f_patterns, F_patterns, c]
  · have c2 : most < 0 := by omega
    cases m <;> simp_arith only [f_patterns, F_patterns, c, c2]
theorem patterns_long {s w : Nat} {o : Int} {t : List Int} {len most : Int} {k : Nat} (s0 : 0 < s) (s4 : s ≤ 4) (h0 : 0 ≤ len) (h1 : 0 ≤ most) (hk : iMin len 20 = (k : Int)) (hz : 4096 < s ^ k) (k20 : k ≤ 20) : f_patterns [mapD s o w t, .int len, .int most] = some (.exc "TooLong") := by
  have n1 : ¬ len < 0 := by omega
  have n2 : ¬ most < 0 := by omega
  have cw := count_words_ok s k (by omega) (by omega)
  have c1 : (4096 : Int) < ((s ^ k : Nat) : Int) := by omega
  simp_arith only [f_patterns, F_patterns, n1, n2, hk, atI_0, cw, c1]
def B__law_refused_v11_1 : SF := (sExpr (eCallK PF.f_patterns [(eVar 0), (eVar 1)] (eVar 2)))
def F__law_refused_v11 : SF := (sSeq (sTry2 PF.B__law_refused_v11_1 [("OutOfRange", true), ("TooLong", false)] (sRet (eC (.str "range"))) [("OutOfRange", false), ("TooLong", true)] (sRet (eC (.str "long"))))
  (sRet (eC (.str "good"))))
def f__law_refused_v11 : FN := callF 3 F__law_refused_v11
theorem refused_r {s w : Nat} {o : Int} {t : List Int} {len most : Int} (h : f_patterns [mapD s o w t, .int len, .int most] = some (.exc "OutOfRange")) : f__law_refused_v11 [mapD s o w t, .int len, .int most] = some (.ret true (.str "range")) := by
  have k1 : List.lookup (Str.ofString "OutOfRange") [(Str.ofString "OutOfRange", true), (Str.ofString "TooLong", false)] = some true := rfl
  simp_arith only [f__law_refused_v11, F__law_refused_v11, B__law_refused_v11_1, List.cons_append, h, k1]
theorem refused_l {s w : Nat} {o : Int} {t : List Int} {len most : Int} (h : f_patterns [mapD s o w t, .int len, .int most] = some (.exc "TooLong")) : f__law_refused_v11 [mapD s o w t, .int len, .int most] = some (.ret true (.str "long")) := by
  have k1 : List.lookup (Str.ofString "TooLong") [(Str.ofString "OutOfRange", true), (Str.ofString "TooLong", false)] = some false := rfl
  have k2 : List.lookup (Str.ofString "TooLong") [(Str.ofString "OutOfRange", false), (Str.ofString "TooLong", true)] = some true := rfl
  simp_arith only [f__law_refused_v11, F__law_refused_v11, B__law_refused_v11_1, List.cons_append, h, k1, k2]
def idL (s : Nat) : List Int := (List.range s).map fun (k : Nat) => (k : Int)
theorem idL_at {s : Nat} {c : Int} (h : 0 ≤ c ∧ c < (s : Int)) : (idL s).getD c.toNat 0 = c := by
  unfold idL
  rw [List.getD_eq_getElem?_getD, List.getElem?_map, List.getElem?_range (by omega)]
  show ((c.toNat : Nat) : Int) = c
  omega
theorem mpv_id {s : Nat} (s2 : 2 ≤ s) (s4 : s ≤ 4) : MpV s 1 (idL s) := by
  refine ⟨by omega, s4, by unfold idL; rw [List.length_map, List.length_range, Nat.pow_one], fun c hc => ?_, by decide, by decide⟩
  unfold idL at hc
  obtain ⟨k, hk, rfl⟩ := List.mem_map.mp hc
  rw [List.mem_range] at hk
  omega
theorem hits_id {s : Nat} {o : Int} {v : List Int} (s2 : 2 ≤ s) (hv : ∀ c ∈ v, 0 ≤ c ∧ c < (s : Int)) (he : Ends v) : hits s 1 o (idL s) 1 v = [⟨v, 1, 0 - o⟩] := by
  obtain ⟨hne, h1, h2⟩ := he
  have st : Stp s 1 o (idL s) ⟨0, 0, v⟩ ⟨0, 0 - o, v⟩ := by
    refine ⟨?_, .inr ⟨hne, h1, h2⟩, fun p => ?_⟩
    · show 0 = newC s (idL s) [0]
      rw [newC1, idL_at (by omega)]
    · show sc 0 (0 - o) v p = newC s (idL s) (swin 0 0 v (p + o) 1)
      rw [swin1, newC1, sc_shift, idL_at (sc_in (P := fun c => 0 ≤ c ∧ c < (s : Int)) (by omega) hv _)]
  have x1 : itR (nxt s 1 o (idL s)) ⟨0, 0, v⟩ 1 = ⟨0, 0 - o, v⟩ := nxt_eq st
  refine (hits_some (a := 1) (b := 0 - o - 0) ?_).trans (by rw [Int.sub_zero])
  rw [retG, if_neg (fun h => nomatch h.1), if_pos ⟨by rw [x1]; rfl, by rw [x1]; rfl⟩, x1]
  rfl
def cE (s : Nat) : Nat → Nat
  | 0 => 0
  | 1 => s - 1
  | n + 2 => (s - 1) * (s - 1) * s ^ n
def tE (s : Nat) : Nat → Nat
  | 0 => 0
  | n + 1 => tE s n + cE s (n + 1)
theorem cnt_mod {β : Type} (s K : Nat) (hs : 0 < s) (f : Nat → β) : ((List.range (K * s)).flatMap fun i => if i % s ≠ 0 then [f i] else []).length = K * (s - 1) := by
  rw [range_mul, List.flatMap_assoc, flat_len (k := s - 1) _ fun k _ => ?_, List.length_range]
  rw [List.flatMap_map]
  obtain ⟨r, rfl⟩ : ∃ r, s = r + 1 := ⟨s - 1, by omega⟩
  rw [List.range_succ_eq_map, List.flatMap_cons, if_neg (by rw [Nat.add_zero, Nat.mul_mod_left]; exact fun h => h rfl), List.nil_append, List.flatMap_map, flat_len (k := 1) _ fun c hc => ?_, List.length_range, Nat.mul_one, Nat.add_sub_cancel]
  rw [List.mem_range] at hc
  show (if (k * (r + 1) + (c + 1)) % (r + 1) ≠ 0 then [f (k * (r + 1) + (c + 1))] else []).length = 1
  rw [if_pos (by rw [Nat.mul_comm, Nat.mul_add_mod, Nat.mod_eq_of_lt (by omega)]; omega)]
  rfl
theorem found_cnt {s : Nat} {o : Int} (s2 : 2 ≤ s) (s4 : s ≤ 4) (n : Nat) : (foundN s 1 o (idL s) 1 (n + 1)).length = cE s (n + 1) := by
  have s0 : 0 < s := by omega
  have hle : s ^ n ≤ s ^ (n + 1) := pow_le' s0 (by omega)
  have e : (List.range (s ^ (n + 1) - s ^ n)).flatMap (fun i => if (s ^ n + i) % s ≠ 0 then hits s 1 o (idL s) 1 (dig s (n + 1) ((s ^ n + i : Nat) : Int)) else []) = (List.range (s ^ (n + 1) - s ^ n)).flatMap (fun i => if (s ^ n + i) % s ≠ 0 then [(⟨dig s (n + 1) ((s ^ n + i : Nat) : Int), 1, 0 - o⟩ : Pt)] else []) := by
    have : ∀ l : List Nat, (∀ i ∈ l, s ^ n + i < s ^ (n + 1)) → l.flatMap (fun i => if (s ^ n + i) % s ≠ 0 then hits s 1 o (idL s) 1 (dig s (n + 1) ((s ^ n + i : Nat) : Int)) else []) = l.flatMap (fun i => if (s ^ n + i) % s ≠ 0 then [(⟨dig s (n + 1) ((s ^ n + i : Nat) : Int), 1, 0 - o⟩ : Pt)] else []) := fun l h => by
      induction l with
      | nil => rfl
      | cons a l ih =>
        rw [List.flatMap_cons, List.flatMap_cons, ih fun b hb => h b (List.mem_cons_of_mem _ hb)]
        congr 1
        by_cases c : (s ^ n + a) % s ≠ 0
        · rw [if_pos c, if_pos c, hits_id s2 (dig_in (by omega) _ _) ((ends_dig s0 (h a List.mem_cons_self)).mpr ⟨by omega, c⟩)]
        · rw [if_neg c, if_neg c]
    exact this _ fun i hi => by rw [List.mem_range] at hi; omega
  rw [← found_num s0, e]
  cases n with
  | zero =>
    rw [Nat.pow_zero, Nat.zero_add, Nat.pow_one]
    rw [flat_len (k := 1) _ fun i hi => ?_, List.length_range, Nat.mul_one]
    · rfl
    · rw [List.mem_range] at hi
      rw [if_pos (by rw [Nat.mod_eq_of_lt (by omega)]; omega)]
      rfl
  | succ n =>
    have e2 : s ^ (n + 1 + 1) - s ^ (n + 1) = (s ^ (n + 1) - s ^ n) * s := by rw [Nat.sub_mul, ← Nat.pow_succ, ← Nat.pow_succ]
    have e3 : ∀ i, (s ^ (n + 1) + i) % s = i % s := fun i => by rw [Nat.pow_succ, Nat.mul_comm, Nat.mul_add_mod]
    simp only [e3]
    rw [e2, cnt_mod s _ s0]
    show _ = (s - 1) * (s - 1) * s ^ n
    have e4 : s ^ (n + 1) - s ^ n = (s - 1) * s ^ n := by rw [Nat.pow_succ, Nat.sub_mul, Nat.one_mul, Nat.mul_comm]
    rw [e4, Nat.mul_assoc, Nat.mul_comm (s ^ n), ← Nat.mul_assoc]
theorem foundL_cnt {s : Nat} {o : Int} (s2 : 2 ≤ s) (s4 : s ≤ 4) : ∀ len, (foundL s 1 o (idL s) 1 len).length = tE s len
  | 0 => rfl
  | n + 1 => by
    unfold foundL
    rw [List.range_succ, List.flatMap_append, List.length_append, List.flatMap_singleton, found_cnt s2 s4 n, tE]
    exact congrArg (· + _) (foundL_cnt s2 s4 n)
end
end PF
namespace PF
open PySem PySem.Spec PyProof.Rows L2 PL
noncomputable section
def B__law_many_words_1 : SF := (sSetZ 9 (e2 fMul (eVar 9) (eVar 0)))
def B__law_many_words_2 : SF := (sSeq (sSetZ 8 (eIf (bOf (e2 (fD gEq) (eVar 7) (eC (.int 1)))) (e2 (fD gSub) (eVar 0) (eC (.int 1))) (e2 fMul (e2 (fD gSub) (eVar 0) (eC (.int 1))) (e2 (fD gSub) (eVar 0) (eC (.int 1))))))
  (sSeq (sSetZ 9 (eC (.int 1)))
  (sSeq (sForD [4] (iR [(e2 (fD gSub) (eVar 7) (eC (.int 2)))]) (gN 4)
  PF.B__law_many_words_1)
  (sSetZ 6 (e2 fAdd (eVar 6) (e2 fMul (eVar 8) (eVar 9)))))))
def T__law_many_words_3 : BF := (bOf (e2 (fD gNe) (eSl (eVar 10) (pS (eC (.int 1))) pN) (eTup [(eC (.int 1)), (e2 (fD gMod) (e2 (fD gDiv) (eVar 1) (eC (.int 2))) (eC (.int 3)))])))
def F__law_many_words : SF := (sSeq (sSetZ 2 (e2 (fD gSub) (e2 fIx (eList [(eC (.int 12)), (eC (.int 7)), (eC (.int 6))]) (e2 (fD gSub) (eVar 0) (eC (.int 2)))) (e2 (fD gMod) (eVar 1) (eC (.int 2)))))
  (sSeq (sSetZ 3 (eTup [(eVar 0), (e2 (fD gSub) (eC (.int 0)) (e2 (fD gMod) (e2 (fD gDiv) (eVar 1) (eC (.int 2))) (eC (.int 3)))), (eC (.int 1)), (eLc (iR [(eVar 0)]) [4] (gN 4) bYes (eVar 4))]))
  (sSeq (sIf (bOf (e2 (fD gNe) (eCallK PF.f_patterns [(eVar 3), (eVar 2)] (eC (.int 0))) (eList [])))
  (sRet (eC (.bool false)))
  sNil)
  (sSeq (sSetZ 5 (eCallK PF.f_patterns [(eVar 3), (eVar 2)] (eC (.int 1))))
  (sSeq (sSetZ 6 (eC (.int 0)))
  (sSeq (sForD [4, 7, 8, 9] (iR [(eC (.int 1)), (e2 fAdd (eVar 2) (eC (.int 1)))]) (gN 7)
  PF.B__law_many_words_2)
  (sRet (eAnd (e2 (fD gEq) (eCB (fD1 gLen) [(eVar 5)]) (eVar 6)) (e2 (fD gEq) (eCB (fD1 gLen) [(eLc (iL (eVar 5)) [10] (gN 10) PF.T__law_many_words_3 (eVar 10))]) (eC (.int 0)))))))))))
def f__law_many_words : FN := callF 11 F__law_many_words
theorem many_words_ok {s : Nat} (d : Nat) (s2 : 2 ≤ s) (s4 : s ≤ 4) : f__law_many_words [.int s, .int d] = some (.ret true (.bool true)) := by
  have s0 : 0 < s := by omega
  have p1 : 0 ≤ (d : Int) % 2 ∧ (d : Int) % 2 < 2 := by omega
  have p2 : 0 ≤ (d : Int) / 2 % 3 ∧ (d : Int) / 2 % 3 < 3 := by omega
  obtain ⟨x, hx⟩ : ∃ x : Int, (d : Int) / 2 % 3 = x := ⟨_, rfl⟩
  obtain ⟨k, hk⟩ := Int.eq_ofNat_of_zero_le (show 0 ≤ (s : Int) - 2 by omega)
  have r1 : small62 1 = true := small62_ok (by omega) (by omega)
  have rs : small62 (s : Int) = true := small62_ok (by omega) (by omega)
  have key := lcL_map (t := gN 4) (elt := eVar 4) (ρ := [.val true (.int s), .val true (.int d), .und, .und, .und, .und, .und, .und, .und, .und, .und]) (mk := mkN 0) (r := fun (k : Nat) => .int (k : Int)) (List.range s) (fun k hk => by
    simp_arith only [mkN_eq, Int.zero_add])
  have ei : (List.range s).map (fun (k : Nat) => PyData.int (k : Int)) = (idL s).map .int := by unfold idL; rw [List.map_map]; rfl
  rw [ei] at key
  have zi : (idL s).length ≤ 16777216 := by unfold idL; rw [List.length_map, List.length_range]; omega
  have go : ∀ len : Nat, 1 ≤ len → len ≤ 12 → s ^ len ≤ 4096 → [PyData.int 12, .int 7, .int 6][k]? = some (.int ((len : Int) + (d : Int) % 2)) → f__law_many_words [.int s, .int d] = some (.ret true (.bool true)) := fun len l1 l2 lz hat => by
    have key' := lcL_map (t := gN 4) (elt := eVar 4) (ρ := [.val true (.int s), .val true (.int d), .val true (.int len), .und, .und, .und, .und, .und, .und, .und, .und]) (mk := mkN 0) (r := fun (k : Nat) => .int (k : Int)) (List.range s) (fun k hk => by
      simp_arith only [mkN_eq, Int.zero_add])
    rw [ei] at key'
    have el : (len : Int) + (d : Int) % 2 - (d : Int) % 2 = (len : Int) := by omega
    have mp := mpv_id s2 s4
    have pa0 := patterns_ok (o := 0 - x) (len := len) (most := 0) mp s2 lz (by omega) (by omega) (by omega)
    have pa1 := patterns_ok (o := 0 - x) (len := len) (most := 1) mp s2 lz (by omega) (by omega) (by omega)
    have f0 : foundL s 1 (0 - x) (idL s) 0 len = [] := by
      unfold foundL
      rw [List.flatMap_eq_nil_iff]
      intro i _
      unfold foundN
      rw [List.flatMap_eq_nil_iff]
      intro v _
      split
      · exact hits_none rfl
      · rfl
    rw [f0] at pa0
    have pa0' : f_patterns [.tuple [.int s, .int (0 - x), .int 1, .list ((idL s).map .int)], .int len, .int 0] = some (.ret true (.list [])) := pa0
    have pa1' : f_patterns [.tuple [.int s, .int (0 - x), .int 1, .list ((idL s).map .int)], .int len, .int 1] = _ := pa1
    have cnt := foundL_cnt (o := 0 - x) s2 s4 len
    have shape : ∀ p ∈ foundL s 1 (0 - x) (idL s) 1 len, p.t = 1 ∧ p.m = x := fun p hp => by
      unfold foundL at hp
      obtain ⟨i, -, hp⟩ := List.mem_flatMap.mp hp
      unfold foundN at hp
      obtain ⟨v, hv, hp⟩ := List.mem_flatMap.mp hp
      split at hp
      · rename_i he
        rw [hits_id s2 (wrd_in v hv).2 he, List.mem_singleton] at hp
        rw [hp]
        exact ⟨rfl, by show 0 - (0 - x) = x; omega⟩
      · cases hp
    have zl : (foundL s 1 (0 - x) (idL s) 1 len).length ≤ 100000 := by
      have := foundL_len s 1 (0 - x) (idL s) 1 len s0
      have h2 : len * s ^ len ≤ 12 * 4096 := Nat.mul_le_mul l2 lz
      omega
    generalize foundL s 1 (0 - x) (idL s) 1 len = T at pa1' cnt shape zl
    have n0 : gNe (.list []) (.list []) = some (.bool false) := gNe_self rfl (by simp only [PyData.depth, PyData.depthAll]; omega)
    have r2 : small62 ((len : Int) + 1) = true := small62_ok (by omega) (by omega)
    have e1 : ((len : Int) + 1 - 1).toNat = len := by omega
    have tP2 : gNe (.tuple [.int 1, .int x]) (.tuple [.int 1, .int x]) = some (.bool false) := gNe_self rfl (by simp only [PyData.depth, PyData.depthAll]; omega)
    have kf := lcL_filter (t := gN 10) (tt := T__law_many_words_3) (elt := eVar 10) (ρ := [.val true (.int s), .val true (.int d), .val true (.int len), .val true (.tuple [.int s, .int (0 - x), .int 1, .list ((idL s).map .int)]), .und, .val true (.list (T.map ptD)), .val true (.int (tE s len : Nat)), .und, .und, .und, .und]) (mk := fun p => Sl.val true (ptD p)) (p := fun _ => false) (r := ptD) T (fun p hp => by
      refine ⟨?_, fun h => nomatch h⟩
      obtain ⟨h1, h2⟩ := shape p hp
      have cut : PL.cutD [PyData.list (p.w.map .int), .int 1, .int x] (some 1) none = [.int 1, .int x] := cutD_from 1
      simp_arith only [T__law_many_words_3, ptD, h1, h2, cut, hx, tP2])
    have ef : T.filter (fun _ => false) = [] := by
      rw [List.filter_eq_nil_iff]; exact fun _ _ h => nomatch h
    rw [ef, List.map_nil] at kf
    have em : (T.map ptD).map (mkv true) = T.map fun p => Sl.val true (ptD p) := by rw [List.map_map]; rfl
    have lp : forT (turn [4, 7, 8, 9] (gN 7) B__law_many_words_2) ((List.range len).map (mkN 1)) [.val true (.int s), .val true (.int d), .val true (.int len), .val true (.tuple [.int s, .int (0 - x), .int 1, .list ((idL s).map .int)]), .und, .val true (.list (T.map ptD)), .val true (.int 0), .und, .und, .und, .und] = some (.nx [.val true (.int s), .val true (.int d), .val true (.int len), .val true (.tuple [.int s, .int (0 - x), .int 1, .list ((idL s).map .int)]), .und, .val true (.list (T.map ptD)), .val true (.int (tE s len : Nat)), .und, .und, .und, .und]) := by
      refine forT_nx (fun l ρ => ∃ n : Nat, l = List.range' n (len - n) ∧ n ≤ len ∧ ρ = [.val true (.int s), .val true (.int d), .val true (.int len), .val true (.tuple [.int s, .int (0 - x), .int 1, .list ((idL s).map .int)]), .und, .val true (.list (T.map ptD)), .val true (.int (tE s n : Nat)), .und, .und, .und, .und]) (fun r => r = _) ⟨0, by rw [List.range_eq_range', Nat.sub_zero], by omega, rfl⟩ ?_ ?_
      · rintro a l ρ ⟨n, g1, g2, rfl⟩
        obtain ⟨rfl, kn, rfl⟩ := range'_cons g1
        refine ⟨_, ?_, a + 1, rfl, by omega, rfl⟩
        cases a with
        | zero =>
          have rm : small62 (-1) = true := small62_ok (by omega) (by omega)
          have cm : cMul ((s : Int) - 1) 1 = true := cMul2 (by decide) (by decide)
          have et : ((tE s (0 + 1) : Nat) : Int) = ((tE s 0 : Nat) : Int) + ((s : Int) - 1) * 1 := by
            have : tE s (0 + 1) = tE s 0 + (s - 1) := rfl
            rw [this]
            omega
          have tr : Int.toNat (-1 - 0) = 0 := rfl
          rw [et]
          simp_arith only [B__law_many_words_2, mkN_eq, rm, rngI_eq, tr, List.range_zero, forT, cm]
        | succ a =>
          have ea : (1 : Int) + ((a + 1 : Nat) : Int) = ((a + 2 : Nat) : Int) := by omega
          have c1 : ¬ ((a + 2 : Nat) : Int) = 1 := by omega
          have cs : cMul ((s : Int) - 1) ((s : Int) - 1) = true := cMul2 (by omega) (by omega)
          have e2 : ((a + 2 : Nat) : Int) - 2 = (a : Int) := by omega
          have ra : small62 (a : Int) = true := small62_ok (by omega) (by omega)
          have cm : cMul (((s : Int) - 1) * ((s : Int) - 1)) ((s ^ a : Nat) : Int) = true := cMul1 (by
            have : (0 : Int) ≤ ((s : Int) - 1) * ((s : Int) - 1) := Int.mul_nonneg (by omega) (by omega)
            omega) (by
            have h : ((s : Int) - 1) * ((s : Int) - 1) ≤ 3 * 3 := Int.mul_le_mul (by omega) (by omega) (by omega) (by omega)
            omega)
          have es : ((s - 1 : Nat) : Int) = (s : Int) - 1 := by omega
          have et : ((tE s (a + 1 + 1) : Nat) : Int) = ((tE s (a + 1) : Nat) : Int) + (((s : Int) - 1) * ((s : Int) - 1)) * ((s ^ a : Nat) : Int) := by
            rw [tE]
            show ((tE s (a + 1) + (s - 1) * (s - 1) * s ^ a : Nat) : Int) = _
            rw [Int.natCast_add, Int.natCast_mul, Int.natCast_mul, es]
          have inn : forT (turn [4] (gN 4) B__law_many_words_1) ((List.range a).map (mkN 0)) [.val true (.int s), .val true (.int d), .val true (.int len), .val true (.tuple [.int s, .int (0 - x), .int 1, .list ((idL s).map .int)]), .und, .val true (.list (T.map ptD)), .val true (.int (tE s (a + 1) : Nat)), .val true (.int ((a + 2 : Nat) : Int)), .val true (.int (((s : Int) - 1) * ((s : Int) - 1))), .val true (.int 1), .und] = some (.nx [.val true (.int s), .val true (.int d), .val true (.int len), .val true (.tuple [.int s, .int (0 - x), .int 1, .list ((idL s).map .int)]), .und, .val true (.list (T.map ptD)), .val true (.int (tE s (a + 1) : Nat)), .val true (.int ((a + 2 : Nat) : Int)), .val true (.int (((s : Int) - 1) * ((s : Int) - 1))), .val true (.int ((s ^ a : Nat) : Int)), .und]) := by
            refine forT_nx (fun l ρ => ∃ n : Nat, n + l.length = a ∧ ρ = [.val true (.int s), .val true (.int d), .val true (.int len), .val true (.tuple [.int s, .int (0 - x), .int 1, .list ((idL s).map .int)]), .und, .val true (.list (T.map ptD)), .val true (.int (tE s (a + 1) : Nat)), .val true (.int ((a + 2 : Nat) : Int)), .val true (.int (((s : Int) - 1) * ((s : Int) - 1))), .val true (.int ((s ^ n : Nat) : Int)), .und]) (fun r => r = _) ⟨0, by rw [List.length_range]; omega, rfl⟩ ?_ ?_
            · rintro b l ρ ⟨n, g1, rfl⟩
              have cq : cMul ((s ^ n : Nat) : Int) s = true := cMul2 (by omega) (by omega)
              rw [List.length_cons] at g1
              have ep : ((s ^ (n + 1) : Nat) : Int) = ((s ^ n : Nat) : Int) * s := by rw [Nat.pow_succ, Int.natCast_mul]
              refine ⟨_, ?_, n + 1, by omega, rfl⟩
              rw [ep]
              simp_arith only [B__law_many_words_1, mkN_eq, cq]
            · rintro ρ ⟨n, g1, rfl⟩
              rw [List.length_nil, Nat.add_zero] at g1
              subst g1
              rfl
          rw [et]
          simp_arith only [B__law_many_words_2, mkN_eq, ea, c1, cs, e2, ra, rngI_eq, Int.sub_zero, Int.toNat_natCast, inn, cm]
      · rintro ρ ⟨n, g1, g2, rfl⟩
        have : n = len := by
          have := congrArg List.length g1
          rw [List.length_nil, List.length_range'] at this
          omega
        subst this
        rfl
    have cl : ((T.length : Nat) : Int) = ((tE s len : Nat) : Int) := by rw [cnt]
    have hcl := cd_true cl
    simp_arith only [f__law_many_words, F__law_many_words, List.cons_append, hk, atI_cast, hat, el, hx, rs, rngI_eq, Int.sub_zero, Int.toNat_natCast, key', zi, pa0', n0, pa1', r1, r2, e1, lp, em, kf, hcl]
  have s234 : s = 2 ∨ s = 3 ∨ s = 4 := by omega
  have d2 : (d : Int) % 2 = 0 ∨ (d : Int) % 2 = 1 := by omega
  rcases s234 with rfl | rfl | rfl
  · have : k = 0 := by omega
    subst this
    rcases d2 with h | h
    · exact go 12 (by decide) (by decide) (by decide) (by rw [h]; rfl)
    · exact go 11 (by decide) (by decide) (by decide) (by rw [h]; rfl)
  · have : k = 1 := by omega
    subst this
    rcases d2 with h | h
    · exact go 7 (by decide) (by decide) (by decide) (by rw [h]; rfl)
    · exact go 6 (by decide) (by decide) (by decide) (by rw [h]; rfl)
  · have : k = 2 := by omega
    subst this
    rcases d2 with h | h
    · exact go 6 (by decide) (by decide) (by decide) (by rw [h]; rfl)
    · exact go 5 (by decide) (by decide) (by decide) (by rw [h]; rfl)
def B_law_k51_1 : SF := (sIf (bAnd (bOf (e2 (fD gNe) (e2 fIx (eVar 8) (eC (.int 0))) (eC (.int 0)))) (bOf (e2 (fD gNe) (e2 fIx (eVar 8) (e2 (fD gSub) (eVar 7) (eC (.int 1)))) (eC (.int 0)))))
  (sSeq (sSetZ 9 (eCall PF.f__law_return [(eVar 1), (eVar 8), (eVar 4)]))
  (sIf (bOf (e2 (fD (gIs true)) (eVar 9) (eC .none)))
  (sApp 6 (eTup [(eVar 8), (e2 fIx (eVar 9) (eC (.int 0))), (e2 fIx (eVar 9) (eC (.int 1)))]))
  sNil))
  sNil)
def B_law_k51_2 : SF := (sForD [8, 9] (iL (eCall PF.f__law_words [(e2 fIx (eVar 1) (eC (.int 0))), (eVar 7)])) (gN 8)
  PF.B_law_k51_1)
def K_law_k51_3 : SF := (sSeq (sSet 6 (eList []))
  (sSeq (sForD [7, 8, 9] (iR [(eC (.int 1)), (e2 fAdd (eVar 5) (eC (.int 1)))]) (gN 7)
  PF.B_law_k51_2)
  (sSeq (sSet 10 (eCallK PF.f_patterns [(eVar 1), (eVar 5)] (eVar 4)))
  (sSeq (sIf (bOr (bNot (tOf (eIsa PyData.isList (eVar 10)))) (bOr (bOf (e2 (fD gNe) (eVar 10) (eVar 6))) (bOr (bNot (tOf (eCall PF.f__law_plain_v1 [(eVar 10)]))) (bOf (e2 (fD gNe) (eCB (fD1 gRepr) [(eVar 1)]) (eVar 2))))))
  (sRet (eC (.bool false)))
  sNil)
  (sSeq (sForApp 11 10 100)
  (sSeq (sIf (bOf (e2 (fD gNe) (eCallK PF.f_patterns [(eVar 1), (eVar 5)] (eVar 4)) (eVar 6)))
  (sRet (eC (.bool false)))
  sNil)
  (sSeq (sIf (bOr (bOf (e2 (fD gNe) (eCall PF.f__law_refused_v11 [(eVar 1), (e2 (fD gSub) (e1 fNeg (eC (.int 1))) (e2 (fD gMod) (e2 fIx (eVar 3) (eC (.int 2))) (eC (.int 4)))), (eVar 4)]) (eC (.str "range")))) (bOf (e2 (fD gNe) (eCall PF.f__law_refused_v11 [(eVar 1), (eVar 5), (e2 (fD gSub) (e1 fNeg (eC (.int 1))) (e2 (fD gMod) (e2 fIx (eVar 3) (eC (.int 2))) (eC (.int 4))))]) (eC (.str "range")))))
  (sRet (eC (.bool false)))
  sNil)
  (sSeq (sIf (bOr (bOf (e2 (fD gNe) (eCall PF.f__law_refused_v11 [(eVar 1), (e2 (fD gPow) (eC (.int 10)) (eC (.int 15))), (eC (.int 0))]) (eC (.str "long")))) (bOr (bOf (e2 (fD gNe) (eCall PF.f__law_refused_v11 [(eVar 1), (eC (.int 20)), (e1 fNeg (eC (.int 1)))]) (eC (.str "range")))) (bAnd (bOf (e2 (fD gEq) (e2 (fD gMod) (e2 fIx (eVar 3) (eC (.int 2))) (eC (.int 30))) (eC (.int 0)))) (bNot (tOf (eCall PF.f__law_many_words [(e2 fIx (eVar 1) (eC (.int 0))), (e2 (fD gDiv) (e2 fIx (eVar 3) (eC (.int 2))) (eC (.int 30)))]))))))
  (sRet (eC (.bool false)))
  sNil)
  (sRet (e2 (fD gEq) (eCall PF.f__law_refused_v11 [(eVar 1), (e2 fAdd (e2 fIx (eList [(eC (.int 13)), (eC (.int 8)), (eC (.int 7))]) (e2 (fD gSub) (e2 fIx (eVar 1) (eC (.int 0))) (eC (.int 2)))) (e2 (fD gMod) (e2 fIx (eVar 3) (eC (.int 2))) (eC (.int 3)))), (eVar 4)]) (eC (.str "long"))))))))))))
def F_law_k51 : SF := (sSeq (sSetZ 1 (eCall PF.f__law_map_v1 [(eCall PF.f__law_cell_v1 [(eVar 0), (eC (.int 0))]), (eCall PF.f__law_cell_v1 [(eVar 0), (eC (.int 1))])]))
  (sSeq (sSetZ 2 (eCB (fD1 gRepr) [(eVar 1)]))
  (sSeq (sSetZ 3 (eCall PF.f__law_digits_v1 [(eCall PF.f__law_cell_v1 [(eVar 0), (eC (.int 2))]), (eC (.int 2520)), (eC (.int 3))]))
  (sSeq (sSetZ 4 (e2 (fD gMod) (e2 fIx (eVar 3) (eC (.int 0))) (eC (.int 7))))
  (sSeq (sSetZ 5 (e2 (fD gMod) (e2 fIx (eVar 3) (eC (.int 1))) (e2 fIx (eList [(eC (.int 6)), (eC (.int 4)), (eC (.int 4))]) (e2 (fD gSub) (e2 fIx (eVar 1) (eC (.int 0))) (eC (.int 2))))))
  (sSeq (sIf (bAnd (bOf (e2 (fD gEq) (e2 fIx (eVar 1) (eC (.int 0))) (eC (.int 2)))) (bAnd (bOf (e2 (fD gLt) (e2 fIx (eVar 1) (eC (.int 2))) (eC (.int 4)))) (bOf (e2 (fD gEq) (e2 (fD gMod) (e2 (fD gDiv) (e2 fIx (eVar 3) (eC (.int 0))) (eC (.int 7))) (eC (.int 4))) (eC (.int 0))))))
  (sSeq (sSetZ 4 (e2 fAdd (eC (.int 7)) (e2 (fD gMod) (e2 (fD gDiv) (e2 fIx (eVar 3) (eC (.int 0))) (eC (.int 28))) (eC (.int 6)))))
  (sSetZ 5 (e2 fAdd (eC (.int 6)) (e2 (fD gMod) (e2 (fD gDiv) (e2 fIx (eVar 3) (eC (.int 1))) (eC (.int 7))) (eC (.int 2))))))
  sNil)
  PF.K_law_k51_3))))))
def f_law_k51 : FN := callF 12 F_law_k51
abbrev e51 (x0 : Sl) (s w : Nat) (o : Int) (t : List Int) (kept : Sl) (D : Sl) (most len : Nat) (b : List PyData) (c : Sl) : Ev := [x0, .val true (mapD s o w t), kept, D, .val true (.int most), .val true (.int len), .own true b, c, .und, .und, .und, .und]
theorem k51_word {s w : Nat} {o : Int} {t : List Int} {most len i : Nat} (m : MpV s w t) {x0 kept D : Sl} (hm : most ≤ 500) (v : List Int) (hv : v ∈ wrd s (i + 1)) (hi : i ≤ 100) (b : List PyData) (hb : b.length < 16000000) :
    turn [8, 9] (gN 8) B_law_k51_1 (.val true (wD v)) (e51 x0 s w o t kept D most len b (.val true (.int ((i + 1 : Nat) : Int)))) = some (.nx (e51 x0 s w o t kept D most len (b ++ (open Classical in if Ends v then hits s w o t most v else []).map ptD) (.val true (.int ((i + 1 : Nat) : Int))))) := by
  obtain ⟨h1, h2⟩ := wrd_in v hv
  have hne : v ≠ [] := fun z => by rw [z, List.length_nil] at h1; omega
  have zb : b.length < 16777216 := by omega
  have l0 : atI (v.map PyData.int) 0 = some (.int (v.head hne)) := by
    rw [atI_0, List.getElem?_map, ← List.head?_eq_getElem?, List.head?_eq_some_head hne]; rfl
  have l1 : atI (v.map PyData.int) (((i + 1 : Nat) : Int) - 1) = some (.int (v.getLast hne)) := by
    rw [show ((i + 1 : Nat) : Int) - 1 = ((v.length - 1 : Nat) : Int) by omega, atI_cast, List.getElem?_map, ← List.getLast?_eq_getElem?, List.getLast?_eq_some_getLast hne]; rfl
  have lr := lret_ok (o := o) (v := v) (most := most) m h2 (by omega) (by omega)
  by_cases c1 : v.head hne = 0
  · rw [if_neg (fun ⟨_, z, _⟩ => z c1)]
    simp_arith only [e51, B_law_k51_1, l0, c1, List.append_nil]
  · by_cases c2 : v.getLast hne = 0
    · rw [if_neg (fun ⟨_, _, z⟩ => z c2)]
      simp_arith only [e51, B_law_k51_1, l0, l1, c1, c2, List.append_nil]
    · rw [if_pos ⟨hne, c1, c2⟩]
      rcases retG_kind false (itR (nxt s w o t) ⟨0, 0, v⟩) most 1 with e | ⟨x, y, e⟩
      · rw [hits_none e]
        rw [e] at lr
        simp_arith only [e51, B_law_k51_1, l0, l1, c1, c2, lr, List.append_nil]
      · rw [hits_some e]
        rw [e] at lr
        simp_arith only [e51, B_law_k51_1, l0, l1, c1, c2, lr, atI_0, atI_1, zb, ptD]
theorem due51_ok {s w : Nat} {o : Int} {t : List Int} {most len : Nat} (m : MpV s w t) {x0 kept D : Sl} (hm : most ≤ 500) (hl : len ≤ 20) (hz : s ^ len ≤ 4096) : forT (turn [7, 8, 9] (gN 7) B_law_k51_2) ((List.range len).map (mkN 1)) (e51 x0 s w o t kept D most len [] .und) = some (.nx (e51 x0 s w o t kept D most len ((foundL s w o t most len).map ptD) .und)) := by
  have s0 := m.s0
  have s4 := m.s4
  have outer := forT_app (tn := turn [7, 8, 9] (gN 7) B_law_k51_2) (mk := mkN 1) (enc := fun b => e51 x0 s w o t kept D most len b .und) (g := fun i => (foundN s w o t most (i + 1)).map ptD) 1000000 (List.range len) [] (by
    rw [← map_flat, List.length_map]
    have := foundL_len s w o t most len s0
    have h2 : len * s ^ len ≤ 20 * 4096 := Nat.mul_le_mul hl hz
    show 0 + (foundL s w o t most len).length ≤ _
    omega) fun i hi b hb => by
    rw [List.mem_range] at hi
    have p1 : s ^ (i + 1) ≤ s ^ len := pow_le' s0 (by omega)
    have wo := words_ok s (i + 1) (by omega) (by omega) (by omega) (by omega)
    have e2 : (1 : Int) + (i : Int) = ((i + 1 : Nat) : Int) := by omega
    have e3 : ((wrd s (i + 1)).map wD).map (mkv true) = (wrd s (i + 1)).map fun w : List Int => Sl.val true (wD w) := by rw [List.map_map]; rfl
    have inner := forT_app (tn := turn [8, 9] (gN 8) B_law_k51_1) (mk := fun v : List Int => Sl.val true (wD v)) (enc := fun b => e51 x0 s w o t kept D most len b (.val true (.int ((i + 1 : Nat) : Int)))) (g := fun v => (open Classical in if Ends v then hits s w o t most v else []).map ptD) 1000000 (wrd s (i + 1)) b (by
      rw [← map_flat]
      exact hb) fun v hv b hb => k51_word m hm v hv (by omega) b (by omega)
    rw [← map_flat] at inner
    simp_arith only [B_law_k51_2, mkN_eq, e2, atI_0, wo, e3, inner]
    rfl
  rw [← map_flat, List.nil_append] at outer
  exact outer
theorem foundL_word {s w : Nat} {o : Int} {t : List Int} {most len : Nat} : ∀ x ∈ foundL s w o t most len, x.w.length ≤ len := fun x hx => by
  unfold foundL at hx
  obtain ⟨i, hi, hx⟩ := List.mem_flatMap.mp hx
  rw [List.mem_range] at hi
  unfold foundN at hx
  obtain ⟨v, hv, hx⟩ := List.mem_flatMap.mp hx
  have := (wrd_in v hv).1
  split at hx
  · unfold hits at hx
    split at hx
    · rw [List.mem_singleton] at hx
      rw [hx]
      show v.length ≤ len
      omega
    · cases hx
  · cases hx
theorem k51_tail {s w : Nat} {o : Int} {t : List Int} {most len : Nat} (h : MapOk s o w t) {x0 : Sl} {a0 a1 a2 : Int} (p2 : 0 ≤ a2) (hm : most ≤ 12) (hl : len ≤ 7) (hz : s ^ len ≤ 4096) : kF (K_law_k51_3 [x0, .val true (mapD s o w t), .val true (.str (mapD s o w t).shown), .val true (.list [.int a0, .int a1, .int a2]), .val true (.int most), .val true (.int len), .und, .und, .und, .und, .und, .und]) = some (.ret true (.bool true)) := by
  have m := h.mp
  have s2 := h.v.s2; have s4 := h.v.s4; have w4 := h.w4; have w1 := h.v.w1
  have r1 : small62 1 = true := small62_ok (by omega) (by omega)
  have r2 : small62 ((len : Int) + 1) = true := small62_ok (by omega) (by omega)
  have e1 : ((len : Int) + 1 - 1).toNat = len := by omega
  have hb : len + most * (w - 1) ≤ 500 := by
    have h1 : most * (w - 1) ≤ 12 * 3 := Nat.mul_le_mul hm (by omega)
    omega
  have due := due51_ok (o := o) (x0 := x0) (kept := .val true (.str (mapD s o w t).shown)) (D := .val true (.list [.int a0, .int a1, .int a2])) m (show most ≤ 500 by omega) (show len ≤ 20 by omega) hz
  have pat := patterns_ok (o := o) m s2 hz (by omega) hb (by omega)
  have fw := foundL_word (s := s) (w := w) (o := o) (t := t) (most := most) (len := len)
  have fl := foundL_len s w o t most len (by omega)
  have fl' : len * s ^ len ≤ 7 * 4096 := Nat.mul_le_mul hl hz
  generalize foundL s w o t most len = L at due pat fw fl
  have ne := pts_ne L
  have pp := plain_pts L
  have ok := okIt_pts L fun x hx => by have := fw x hx; omega
  have rp := map_rep h.v
  have zL : L.length + 100 < 16777216 := by omega
  have q4 : 0 ≤ a2 % 4 ∧ a2 % 4 < 4 := ⟨Int.emod_nonneg _ (by decide), Int.emod_lt_of_pos _ (by decide)⟩
  have q3 : 0 ≤ a2 % 3 ∧ a2 % 3 < 3 := ⟨Int.emod_nonneg _ (by decide), Int.emod_lt_of_pos _ (by decide)⟩
  obtain ⟨z, hz4⟩ : ∃ z : Int, -1 - a2 % 4 = z := ⟨_, rfl⟩
  have f1 := refused_r (s := s) (w := w) (o := o) (t := t) (len := z) (most := most) (patterns_neg (.inl (by omega)))
  have f2 := refused_r (s := s) (w := w) (o := o) (t := t) (len := len) (most := z) (patterns_neg (.inr (by omega)))
  have s20 : 4096 < s ^ 20 := Nat.lt_of_lt_of_le (by decide) (Nat.pow_le_pow_left s2 20)
  have f3 := refused_l (o := o) (patterns_long (s := s) (w := w) (o := o) (t := t) (len := 1000000000000000) (most := 0) (k := 20) (by omega) s4 (by decide) (by decide) (by decide) s20 (by decide))
  have f4 := refused_r (s := s) (w := w) (o := o) (t := t) (len := 20) (most := -1) (patterns_neg (.inr (by decide)))
  have mw := many_words_ok (s := s) (a2 / 30).toNat s2 s4
  rw [show (((a2 / 30).toNat : Nat) : Int) = a2 / 30 by omega] at mw
  obtain ⟨k, hk⟩ := Int.eq_ofNat_of_zero_le (show 0 ≤ (s : Int) - 2 by omega)
  obtain ⟨b, n, hat, hn, hs, hn20⟩ : ∃ (b : Int) (n : Nat), [PyData.int 13, .int 8, .int 7][k]? = some (.int b) ∧ b + a2 % 3 = n ∧ 4096 < s ^ n ∧ n ≤ 20 := by
    obtain ⟨y, hy⟩ := Int.eq_ofNat_of_zero_le q3.1
    have s234 : s = 2 ∨ s = 3 ∨ s = 4 := by omega
    rcases s234 with rfl | rfl | rfl
    · exact ⟨13, 13 + y, by rw [show k = 0 by omega]; rfl, by omega, Nat.lt_of_lt_of_le (by decide : 4096 < 2 ^ 13) (pow_le' (by decide) (by omega)), by omega⟩
    · exact ⟨8, 8 + y, by rw [show k = 1 by omega]; rfl, by omega, Nat.lt_of_lt_of_le (by decide : 4096 < 3 ^ 8) (pow_le' (by decide) (by omega)), by omega⟩
    · exact ⟨7, 7 + y, by rw [show k = 2 by omega]; rfl, by omega, Nat.lt_of_lt_of_le (by decide : 4096 < 4 ^ 7) (pow_le' (by decide) (by omega)), by omega⟩
  have f5 := refused_l (o := o) (patterns_long (s := s) (w := w) (o := o) (t := t) (len := (n : Int)) (most := most) (k := n) (by omega) s4 (by omega) (by omega) (by unfold iMin; split <;> omega) hs hn20)
  have ge : ∀ x : Str, gEq (.str x) (.str x) = some (.bool true) := gEq_str
  have l11 : 11 < 12 := by decide
  have isl : ∀ d : List PyData, (PyData.list d).isList = true := fun _ => rfl
  by_cases c30 : a2 % 30 = 0
  · simp_arith only [K_law_k51_3, List.cons_append, isl, r1, r2, rngI_eq, e1, due, pat, ne, pp, rp, gNe_str, ok, zL, l11, atI_2, hz4, f1, f2, f3, f4, c30, atI_0, mw, hk, atI_cast, hat, hn, f5, ge]
  · simp_arith only [K_law_k51_3, List.cons_append, isl, r1, r2, rngI_eq, e1, due, pat, ne, pp, rp, gNe_str, ok, zL, l11, atI_2, hz4, f1, f2, f3, f4, c30, atI_0, mw, hk, atI_cast, hat, hn, f5, ge]
theorem plain_law_k51 (ns : List Int) (hl : ns.length ≤ 63) : f_law_k51 [.list (ns.map .int)] = some (.ret true (.bool true)) := by
  obtain ⟨c0, h0⟩ := cell1_ok ns 0
  obtain ⟨c1, h1⟩ := cell1_ok ns 1
  obtain ⟨c2, h2⟩ := cell1_ok ns 2
  have h0 : f__law_cell_v1 [.list (ns.map .int), .int 0] = _ := h0
  have h1 : f__law_cell_v1 [.list (ns.map .int), .int 1] = _ := h1
  have h2 : f__law_cell_v1 [.list (ns.map .int), .int 2] = _ := h2
  obtain ⟨s, o, w, t, m1, m2⟩ := map1_ok (c0 : Int) (c1 : Int)
  obtain ⟨D, d1, d2, d3⟩ := digits2_ok (c2 : Int) 2520 3 (by decide) (by decide) (by decide)
  obtain ⟨a0, a1, a2, rfl⟩ : ∃ a b c, D = [a, b, c] := by
    match D, d2 with
    | [a, b, c], _ => exact ⟨a, b, c, rfl⟩
  have p2 := (d3 a2 (by simp)).1
  have d1' : f__law_digits_v1 [.int c2, .int 2520, .int 3] = some (.ret true (.list [.int a0, .int a1, .int a2])) := d1
  have rp := map_rep m2.v
  have s2 := m2.v.s2; have s4 := m2.v.s4
  have q7 : 0 ≤ a0 % 7 ∧ a0 % 7 < 7 := ⟨Int.emod_nonneg _ (by decide), Int.emod_lt_of_pos _ (by decide)⟩
  have q6 : 0 ≤ a0 / 28 % 6 ∧ a0 / 28 % 6 < 6 := ⟨Int.emod_nonneg _ (by decide), Int.emod_lt_of_pos _ (by decide)⟩
  have q2 : 0 ≤ a1 / 7 % 2 ∧ a1 / 7 % 2 < 2 := ⟨Int.emod_nonneg _ (by decide), Int.emod_lt_of_pos _ (by decide)⟩
  obtain ⟨m7, hm7⟩ := Int.eq_ofNat_of_zero_le q7.1
  obtain ⟨m6, hm6⟩ := Int.eq_ofNat_of_zero_le (show 0 ≤ 7 + a0 / 28 % 6 by omega)
  obtain ⟨l2, hl2⟩ := Int.eq_ofNat_of_zero_le (show 0 ≤ 6 + a1 / 7 % 2 by omega)
  obtain ⟨k, hk⟩ := Int.eq_ofNat_of_zero_le (show 0 ≤ (s : Int) - 2 by omega)
  obtain ⟨b, hat, hb⟩ : ∃ b : Int, [PyData.int 6, .int 4, .int 4][k]? = some (.int b) ∧ (s = 2 ∧ b = 6 ∨ b = 4) := by
    have s234 : s = 2 ∨ s = 3 ∨ s = 4 := by omega
    rcases s234 with rfl | rfl | rfl
    · exact ⟨6, by rw [show k = 0 by omega]; rfl, .inl ⟨rfl, rfl⟩⟩
    · exact ⟨4, by rw [show k = 1 by omega]; rfl, .inr rfl⟩
    · exact ⟨4, by rw [show k = 2 by omega]; rfl, .inr rfl⟩
  have bp : (0 : Int) < b := by omega
  have qb : 0 ≤ a1 % b ∧ a1 % b < b := ⟨Int.emod_nonneg _ (by omega), Int.emod_lt_of_pos _ bp⟩
  obtain ⟨l1, hl1⟩ := Int.eq_ofNat_of_zero_le qb.1
  have z1 : s ^ l1 ≤ 4096 := by
    have h : s ^ l1 ≤ 4 ^ 6 := Nat.le_trans (Nat.pow_le_pow_left s4 l1) (pow_le' (by decide) (by omega))
    exact Nat.le_trans h (by decide)
  by_cases g1 : s = 2
  · have z2 : s ^ l2 ≤ 4096 := by
      rw [g1]
      exact Nat.le_trans (pow_le' (by decide) (show l2 ≤ 12 by omega)) (by decide)
    have g1' : (s : Int) = 2 := by omega
    by_cases g2 : (w : Int) < 4
    · by_cases g3 : a0 / 7 % 4 = 0
      · have tl := k51_tail (x0 := .val false (.list (ns.map .int))) (a0 := a0) (a1 := a1) m2 p2 (most := m6) (len := l2) (by omega) (by omega) z2
        have c1 := cd_true g1'
        rw [← tl]
        simp_arith only [f_law_k51, F_law_k51, h0, h1, h2, m1, rp, d1', atI_0, atI_1, atI_2, hm7, hk, atI_cast, hat, bp, hl1, c1, g2, g3, hm6, hl2]
      · have tl := k51_tail (x0 := .val false (.list (ns.map .int))) (a0 := a0) (a1 := a1) m2 p2 (most := m7) (len := l1) (by omega) (by omega) z1
        have c1 := cd_true g1'
        rw [← tl]
        simp_arith only [f_law_k51, F_law_k51, h0, h1, h2, m1, rp, d1', atI_0, atI_1, atI_2, hm7, hk, atI_cast, hat, bp, hl1, c1, g2, g3]
    · have tl := k51_tail (x0 := .val false (.list (ns.map .int))) (a0 := a0) (a1 := a1) m2 p2 (most := m7) (len := l1) (by omega) (by omega) z1
      have c1 := cd_true g1'
      rw [← tl]
      simp_arith only [f_law_k51, F_law_k51, h0, h1, h2, m1, rp, d1', atI_0, atI_1, atI_2, hm7, hk, atI_cast, hat, bp, hl1, c1, g2]
  · have g1' : ¬ (s : Int) = 2 := by omega
    have tl := k51_tail (x0 := .val false (.list (ns.map .int))) (a0 := a0) (a1 := a1) m2 p2 (most := m7) (len := l1) (by omega) (by omega) z1
    rw [← tl]
    simp_arith only [f_law_k51, F_law_k51, h0, h1, h2, m1, rp, d1', atI_0, atI_1, atI_2, hm7, hk, atI_cast, hat, bp, hl1, g1']
end
end PF
namespace LK51
open PySem PySem.Spec PyProof.Rows L2 PL
def topS (i : Nat) : Stmt := PySem.Challenge.pw_edenrow_k51_patterns_found.main.body.getD i (.Pass ⟨0, 0, 0, 0⟩)
abbrev s__law_digits : Stmt := topS 21
abbrev N__law_digits : List Str := ["_law_cell_here", "_law_base", "_law_most", "_law_digits_here", "_law_large", "_law_k"]
theorem sc__law_digits : FnScope N__law_digits ["_law_cell_here", "_law_base", "_law_most"] (defScope s__law_digits) := ⟨rfl, rfl, rfl, by decide +kernel, rfl, by decide +kernel, by decide +kernel⟩
abbrev s__law_words : Stmt := topS 22
abbrev N__law_words : List Str := ["_law_size", "_law_length", "_law_words_here", "_law_k", "_law_longer", "_law_word_here", "_law_cell_here"]
theorem sc__law_words : FnScope N__law_words ["_law_size", "_law_length"] (defScope s__law_words) := ⟨rfl, rfl, rfl, by decide +kernel, rfl, by decide +kernel, by decide +kernel⟩
abbrev s__law_order : Stmt := topS 23
abbrev N__law_order : List Str := ["_law_size", "_law_draw", "_law_rest", "_law_cell_here", "_law_order_here", "_law_k", "_law_at"]
theorem sc__law_order : FnScope N__law_order ["_law_size", "_law_draw"] (defScope s__law_order) := ⟨rfl, rfl, rfl, by decide +kernel, rfl, by decide +kernel, by decide +kernel⟩
abbrev s__law_partial : Stmt := topS 27
abbrev N__law_partial : List Str := ["_law_draw", "_law_table", "_law_word_here", "_law_order_here", "_law_cell_here"]
theorem sc__law_partial : FnScope N__law_partial ["_law_draw"] (defScope s__law_partial) := ⟨rfl, rfl, rfl, by decide +kernel, rfl, by decide +kernel, by decide +kernel⟩
abbrev s__law_new : Stmt := topS 24
abbrev N__law_new : List Str := ["_law_one", "_law_window", "_law_number", "_law_cell_here"]
theorem sc__law_new : FnScope N__law_new ["_law_one", "_law_window"] (defScope s__law_new) := ⟨rfl, rfl, rfl, by decide +kernel, rfl, by decide +kernel, by decide +kernel⟩
abbrev s__law_word : Stmt := topS 25
abbrev N__law_word : List Str := ["_law_one", "_law_word_here", "_law_k"]
theorem sc__law_word : FnScope N__law_word ["_law_one", "_law_word_here"] (defScope s__law_word) := ⟨rfl, rfl, rfl, by decide +kernel, rfl, by decide +kernel, by decide +kernel⟩
abbrev s__law_after : Stmt := topS 26
abbrev N__law_after : List Str := ["_law_first", "_law_second", "_law_width", "_law_table", "_law_word_here"]
theorem sc__law_after : FnScope N__law_after ["_law_first", "_law_second"] (defScope s__law_after) := ⟨rfl, rfl, rfl, by decide +kernel, rfl, by decide +kernel, by decide +kernel⟩
abbrev s__law_map : Stmt := topS 28
abbrev N__law_map : List Str := ["_law_first", "_law_second", "_law_sizes", "_law_draws", "_law_way", "_law_offset", "_law_size", "_law_width", "_law_words_here", "_law_k", "_law_table", "_law_word_here", "_law_inner", "_law_free", "_law_order_here", "_law_one", "_law_other"]
theorem sc__law_map : FnScope N__law_map ["_law_first", "_law_second"] (defScope s__law_map) := ⟨rfl, rfl, rfl, by decide +kernel, rfl, by decide +kernel, by decide +kernel⟩
abbrev s__law_cell : Stmt := topS 20
abbrev N__law_cell : List Str := ["_law_script", "_law_k"]
theorem sc__law_cell : FnScope N__law_cell ["_law_script", "_law_k"] (defScope s__law_cell) := ⟨rfl, rfl, rfl, by decide +kernel, rfl, by decide +kernel, by decide +kernel⟩
abbrev s__law_simple : Stmt := topS 29
abbrev N__law_simple : List Str := ["_law_row", "_law_background", "_law_start", "_law_cells"]
theorem sc__law_simple : FnScope N__law_simple ["_law_row"] (defScope s__law_simple) := ⟨rfl, rfl, rfl, by decide +kernel, rfl, by decide +kernel, by decide +kernel⟩
abbrev s__law_image : Stmt := topS 30
abbrev N__law_image : List Str := ["_law_one", "_law_row", "_law_background", "_law_start", "_law_cells", "_law_width", "_law_word_here", "_law_new_here"]
theorem sc__law_image : FnScope N__law_image ["_law_one", "_law_row"] (defScope s__law_image) := ⟨rfl, rfl, rfl, by decide +kernel, rfl, by decide +kernel, by decide +kernel⟩
abbrev s__law_return : Stmt := topS 31
abbrev N__law_return : List Str := ["_law_one", "_law_cells", "_law_most", "_law_now", "_law_step"]
theorem sc__law_return : FnScope N__law_return ["_law_one", "_law_cells", "_law_most"] (defScope s__law_return) := ⟨rfl, rfl, rfl, by decide +kernel, rfl, by decide +kernel, by decide +kernel⟩
abbrev s_count_words : Stmt := topS 10
abbrev N_count_words : List Str := ["size", "length", "count", "_"]
theorem sc_count_words : FnScope N_count_words ["size", "length"] (defScope s_count_words) := ⟨rfl, rfl, rfl, by decide +kernel, rfl, by decide +kernel, by decide +kernel⟩
abbrev s_digits_of : Stmt := topS 6
abbrev N_digits_of : List Str := ["size", "number", "count", "digits", "_"]
theorem sc_digits_of : FnScope N_digits_of ["size", "number", "count"] (defScope s_digits_of) := ⟨rfl, rfl, rfl, by decide +kernel, rfl, by decide +kernel, by decide +kernel⟩
abbrev s_spread_simple : Stmt := topS 12
abbrev N_spread_simple : List Str := ["row", "background", "start", "cells", "first", "last"]
theorem sc_spread_simple : FnScope N_spread_simple ["row"] (defScope s_spread_simple) := ⟨rfl, rfl, rfl, by decide +kernel, rfl, by decide +kernel, by decide +kernel⟩
abbrev s_number_of : Stmt := topS 5
abbrev N_number_of : List Str := ["size", "digits", "number", "digit"]
theorem sc_number_of : FnScope N_number_of ["size", "digits"] (defScope s_number_of) := ⟨rfl, rfl, rfl, by decide +kernel, rfl, by decide +kernel, by decide +kernel⟩
abbrev s_new_cell : Stmt := topS 7
abbrev N_new_cell : List Str := ["one", "window"]
theorem sc_new_cell : FnScope N_new_cell ["one", "window"] (defScope s_new_cell) := ⟨rfl, rfl, rfl, by decide +kernel, rfl, by decide +kernel, by decide +kernel⟩
abbrev s_apply_word : Stmt := topS 8
abbrev N_apply_word : List Str := ["one", "word", "width", "at"]
theorem sc_apply_word : FnScope N_apply_word ["one", "word"] (defScope s_apply_word) := ⟨rfl, rfl, rfl, by decide +kernel, rfl, by decide +kernel, by decide +kernel⟩
abbrev s_spread_image : Stmt := topS 13
abbrev N_spread_image : List Str := ["one", "row", "_", "offset", "width", "background", "start", "cells", "border", "changed"]
theorem sc_spread_image : FnScope N_spread_image ["one", "row"] (defScope s_spread_image) := ⟨rfl, rfl, rfl, by decide +kernel, rfl, by decide +kernel, by decide +kernel⟩
abbrev s_return_of : Stmt := topS 17
abbrev N_return_of : List Str := ["one", "row", "most", "background", "start", "cells", "image", "step"]
theorem sc_return_of : FnScope N_return_of ["one", "row", "most"] (defScope s_return_of) := ⟨rfl, rfl, rfl, by decide +kernel, rfl, by decide +kernel, by decide +kernel⟩
abbrev s_patterns : Stmt := topS 18
abbrev N_patterns : List Str := ["one", "length", "most", "size", "found", "count", "number", "cells", "told"]
theorem sc_patterns : FnScope N_patterns ["one", "length", "most"] (defScope s_patterns) := ⟨rfl, rfl, rfl, by decide +kernel, rfl, by decide +kernel, by decide +kernel⟩
abbrev s__law_plain : Stmt := topS 34
abbrev N__law_plain : List Str := ["_law_item", "_law_part"]
theorem sc__law_plain : FnScope N__law_plain ["_law_item"] (defScope s__law_plain) := ⟨rfl, rfl, rfl, by decide +kernel, rfl, by decide +kernel, by decide +kernel⟩
abbrev s__law_refused : Stmt := topS 32
abbrev N__law_refused : List Str := ["_law_one", "_law_length", "_law_most"]
theorem sc__law_refused : FnScope N__law_refused ["_law_one", "_law_length", "_law_most"] (defScope s__law_refused) := ⟨rfl, rfl, rfl, by decide +kernel, rfl, by decide +kernel, by decide +kernel⟩
abbrev s__law_many_words : Stmt := topS 33
abbrev N__law_many_words : List Str := ["_law_size", "_law_draw", "_law_length", "_law_one", "_law_k", "_law_told", "_law_count", "_law_many", "_law_ends", "_law_inner", "_law_item"]
theorem sc__law_many_words : FnScope N__law_many_words ["_law_size", "_law_draw"] (defScope s__law_many_words) := ⟨rfl, rfl, rfl, by decide +kernel, rfl, by decide +kernel, by decide +kernel⟩
abbrev s_law : Stmt := topS 35
abbrev N_law : List Str := ["_law_script", "_law_one", "_law_kept", "_law_draws", "_law_most", "_law_length", "_law_due", "_law_many", "_law_word_here", "_law_found", "_law_told", "_law_item"]
theorem sc_law : FnScope N_law ["_law_script"] (defScope s_law) := ⟨rfl, rfl, rfl, by decide +kernel, rfl, by decide +kernel, by decide +kernel⟩
structure Bl (K : PySem.W.Frag) (mg : Str → Option Value) (C_RowError C_OutOfRange C_TooLong : Addr) : Prop where
  b_repr : mg "repr" = none
  b_range : mg "range" = none
  b_isinstance : mg "isinstance" = none
  b_list : mg "list" = none
  b_tuple : mg "tuple" = none
  b_len : mg "len" = none
  b_int : mg "int" = none
  b_abs : mg "abs" = none
  b_min : mg "min" = none
  b_bool : mg "bool" = none
  v_MOST_WORDS : ∃ t, mg "MOST_WORDS" = some (.int 4096 t)
  v_MOST_CELLS : ∃ t, mg "MOST_CELLS" = some (.int 500 t)
  g_RowError : mg "RowError" = some (.ref C_RowError)
  g_OutOfRange : mg "OutOfRange" = some (.ref C_OutOfRange)
  g_TooLong : mg "TooLong" = some (.ref C_TooLong)
  f_OutOfRange : ClsF K mg "OutOfRange"
  f_TooLong : ClsF K mg "TooLong"
  x_OutOfRange : TabOk K mg (.ref C_OutOfRange) [("OutOfRange", true), ("TooLong", false)]
  x_TooLong : TabOk K mg (.ref C_TooLong) [("OutOfRange", false), ("TooLong", true)]
section
variable {P : Program} {w : World} {K : PySem.W.Frag} {mg : Str → Option Value} {base : Heap} {fa C_RowError C_OutOfRange C_TooLong : Addr} {fd : FuncData}
theorem ok__law_digits (Fn : Fun K "_law_digits" "_law_digits" s__law_digits fa fd) (bl : Bl K mg C_RowError C_OutOfRange C_TooLong)  : FG P w K mg base 1 fa fd ["_law_cell_here", "_law_base", "_law_most"] (spD K mg 3 PF.f__law_digits_v1) :=
  FG.body (k := 0) (N := N__law_digits) Fn sc__law_digits fun cdv A outer s H B E hr hg => by
  have sc := sc__law_digits
  have tk : Takes (cxOf (L2.CX P w) P w K mg base N__law_digits "_law_digits" (defScope s__law_digits) fa cdv A outer s H E) (fun c d _ H => E c d H) := takes_of rfl rfl rfl rfl
  have hp : PassesOwn (model P w) (cxOf (L2.CX P w) P w K mg base N__law_digits "_law_digits" (defScope s__law_digits) fa cdv A outer s H E).A (cxOf (L2.CX P w) P w K mg base N__law_digits "_law_digits" (defScope s__law_digits) fa cdv A outer s H E).env (cxOf (L2.CX P w) P w K mg base N__law_digits "_law_digits" (defScope s__law_digits) fa cdv A outer s H E).xe := passes_of rfl
  exact (psdsCons (psdSet sc.nd (i := 3) rfl (Or.inl rfl) (pdList pdsNil))
  (psdsCons (psdSetZ sc.nd (i := 4) rfl (Or.inl rfl) (pdGe hr.units (pdVar (pv 0)) (pdPow pdInt pdInt)))
  (psdsCons (psdForD (D := [5]) hp rfl (pidR1 bl.b_range (pdsCons (pdVar (pv 2)) pdsNil)) (pgdName sc.nd (i := 5) rfl (Or.inl rfl))
  (psdsOne (psdIf (pbTruth (pdVar (pv 4)))
  (psdsCons (psdApp (pv 3) (pdMod (pdTy1 crInt bl.b_int rfl (pdVar (pv 0))) (pdVar (pv 1))))
  (psdsOne (psdSetZ sc.nd (i := 0) rfl (Or.inl rfl) (pdDiv (pdVar (pv 0)) (pdVar (pv 1))))))
  (psdsOne (psdApp (pv 3) (pdMod (pdMod (pdTy1 crInt bl.b_int rfl (pdAdd (pdAdd (pdMul (pdVar (pv 0)) pdInt) (pdMul (pdMul (pdAdd (pdVar (pv 5)) pdInt) (pdAdd (pdVar (pv 5)) pdInt)) pdInt)) (pdMul (pdDiv (pdVar (pv 0)) pdInt) (pdVar (pv 5))))) pdInt) (pdVar (pv 1))))))))
  (psdsFg (D := [0]) (psdsOne (psdRetOwn (pv 3)))))))
theorem ok__law_words (Fn : Fun K "_law_words" "_law_words" s__law_words fa fd) (bl : Bl K mg C_RowError C_OutOfRange C_TooLong)  : FG P w K mg base 1 fa fd ["_law_size", "_law_length"] (spD K mg 2 PF.f__law_words) :=
  FG.body (k := 0) (N := N__law_words) Fn sc__law_words fun cdv A outer s H B E hr hg => by
  have sc := sc__law_words
  have tk : Takes (cxOf (L2.CX P w) P w K mg base N__law_words "_law_words" (defScope s__law_words) fa cdv A outer s H E) (fun c d _ H => E c d H) := takes_of rfl rfl rfl rfl
  have hp : PassesOwn (model P w) (cxOf (L2.CX P w) P w K mg base N__law_words "_law_words" (defScope s__law_words) fa cdv A outer s H E).A (cxOf (L2.CX P w) P w K mg base N__law_words "_law_words" (defScope s__law_words) fa cdv A outer s H E).env (cxOf (L2.CX P w) P w K mg base N__law_words "_law_words" (defScope s__law_words) fa cdv A outer s H E).xe := passes_of rfl
  exact (psdsCons (psdSetZ sc.nd (i := 2) rfl (Or.inl rfl) (pdList (pdsCons (pdList pdsNil) pdsNil)))
  (psdsCons (psdForD (D := [3, 4, 5, 6]) hp rfl (pidR1 bl.b_range (pdsCons (pdVar (pv 1)) pdsNil)) (pgdName sc.nd (i := 3) rfl (Or.inl rfl))
  (psdsCons (psdSet sc.nd (i := 4) rfl (Or.inl rfl) (pdList pdsNil))
  (psdsCons (psdForD (D := [5, 6]) hp rfl (pidL (pdVar (pv 2))) (pgdName sc.nd (i := 5) rfl (Or.inl rfl))
  (psdsOne (psdForD (D := [6]) hp rfl (pidR1 bl.b_range (pdsCons (pdVar (pv 0)) pdsNil)) (pgdName sc.nd (i := 6) rfl (Or.inl rfl))
  (psdsOne (psdApp (pv 4) (pdAdd (pdVar (pv 5)) (pdList (pdsCons (pdVar (pv 6)) pdsNil))))))))
  (psdsFr (i := 4) (psdsOne (psdSetZ sc.nd (i := 2) rfl (Or.inl rfl) (pdVar (pv 4))))))))
  (psdsOne (psdRet (pdVar (pv 2))))))
theorem ok__law_order (Fn : Fun K "_law_order" "_law_order" s__law_order fa fd) (bl : Bl K mg C_RowError C_OutOfRange C_TooLong)  : FG P w K mg base 1 fa fd ["_law_size", "_law_draw"] (spD K mg 2 PF.f__law_order_v1) :=
  FG.body (k := 0) (N := N__law_order) Fn sc__law_order fun cdv A outer s H B E hr hg => by
  have sc := sc__law_order
  have tk : Takes (cxOf (L2.CX P w) P w K mg base N__law_order "_law_order" (defScope s__law_order) fa cdv A outer s H E) (fun c d _ H => E c d H) := takes_of rfl rfl rfl rfl
  have hp : PassesOwn (model P w) (cxOf (L2.CX P w) P w K mg base N__law_order "_law_order" (defScope s__law_order) fa cdv A outer s H E).A (cxOf (L2.CX P w) P w K mg base N__law_order "_law_order" (defScope s__law_order) fa cdv A outer s H E).env (cxOf (L2.CX P w) P w K mg base N__law_order "_law_order" (defScope s__law_order) fa cdv A outer s H E).xe := passes_of rfl
  exact (psdsCons (psdSetZLc (i := 2) (own := [("_law_cell_here", 3)]) rfl sc.nd rfl rfl (sw_true rfl rfl rfl (by decide +kernel)) (pidR1 bl.b_range (pdsCons (pdVar (pv 0)) pdsNil)) (blkOk_by (own := [("_law_cell_here", 3)]) (by kernel_rfl)) tg_name (keeps_name (by decide)) (fun _ _ _ _ _ => (pg_name (i := 3) sc.nd rfl (by first | exact Or.inl rfl | exact Or.inr rfl))) (fun _ _ _ _ _ => pbsNil) (fun _ _ _ _ _ => (pdVar (pv 3))))
  (psdsCons (psdSet sc.nd (i := 4) rfl (Or.inl rfl) (pdList pdsNil))
  (psdsCons (psdForD (D := [5, 6]) hp rfl (pidR1 bl.b_range (pdsCons (pdVar (pv 0)) pdsNil)) (pgdName sc.nd (i := 5) rfl (Or.inl rfl))
  (psdsCons (psdSetZ sc.nd (i := 6) rfl (Or.inl rfl) (pdMod (pdTy1 crInt bl.b_int rfl (pdVar (pv 1))) (pdB1 crLen bl.b_len rfl (pdVar (pv 2)))))
  (psdsCons (psdSetZ sc.nd (i := 1) rfl (Or.inl rfl) (pdDiv (pdVar (pv 1)) (pdB1 crLen bl.b_len rfl (pdVar (pv 2)))))
  (psdsCons (psdApp (pv 4) (pdIx (pdVar (pv 2)) (pdVar (pv 6))))
  (psdsOne (psdSetZ sc.nd (i := 2) rfl (Or.inl rfl) (pdAdd (pdSl (pdVar (pv 2)) ppN (ppS (pdVar (pv 6)))) (pdSl (pdVar (pv 2)) (ppS (pdAdd (pdVar (pv 6)) pdInt)) ppN))))))))
  (psdsFg (D := [1, 2]) (psdsOne (psdRetOwn (pv 4)))))))
theorem ok__law_partial (Fn : Fun K "_law_partial" "_law_partial" s__law_partial fa fd) (bl : Bl K mg C_RowError C_OutOfRange C_TooLong) (h__law_words : Has P w K mg base 1 "_law_words" ["_law_size", "_law_length"] PF.f__law_words) (h__law_order : Has P w K mg base 1 "_law_order" ["_law_size", "_law_draw"] PF.f__law_order_v1) : FG P w K mg base 2 fa fd ["_law_draw"] (spD K mg 1 PF.f__law_partial) :=
  FG.body (k := 1) (N := N__law_partial) Fn sc__law_partial fun cdv A outer s H B E hr hg => by
  have sc := sc__law_partial
  have tk : Takes (cxOf (L2.CX P w) P w K mg base N__law_partial "_law_partial" (defScope s__law_partial) fa cdv A outer s H E) (fun c d _ H => E c d H) := takes_of rfl rfl rfl rfl
  have hp : PassesOwn (model P w) (cxOf (L2.CX P w) P w K mg base N__law_partial "_law_partial" (defScope s__law_partial) fa cdv A outer s H E).A (cxOf (L2.CX P w) P w K mg base N__law_partial "_law_partial" (defScope s__law_partial) fa cdv A outer s H E).env (cxOf (L2.CX P w) P w K mg base N__law_partial "_law_partial" (defScope s__law_partial) fa cdv A outer s H E).xe := passes_of rfl
  exact (psdsCons (psdSetZLc (i := 1) (own := [("_law_word_here", 2)]) rfl sc.nd rfl rfl (sw_true rfl rfl rfl (by decide +kernel)) (pidL (pdCallH h__law_words hr hg tk (pdsCons pdInt (pdsCons pdInt pdsNil)))) (blkOk_by (own := [("_law_word_here", 2)]) (by kernel_rfl)) tg_name (keeps_name (by decide)) (fun _ _ _ _ _ => (pg_name (i := 2) sc.nd rfl (by first | exact Or.inl rfl | exact Or.inr rfl))) (fun _ _ _ _ _ => pbsNil) (fun _ _ _ _ _ => (pdAdd (pdMul pdInt (pdDiv (pdIx (pdVar (pv 2)) pdInt) pdInt)) (pdMod (pdIx (pdVar (pv 2)) pdInt) pdInt))))
  (psdsCons (psdSetZ sc.nd (i := 3) rfl (Or.inr rfl) (pdCallH h__law_order hr hg tk (pdsCons pdInt (pdsCons (pdVar (pv 0)) pdsNil))))
  (psdsOne (psdRet (pdTup (pdsCons pdInt (pdsCons (pdSub (pdMod (pdDiv (pdVar (pv 0)) pdInt) pdInt) pdInt) (pdsCons pdInt (pdsCons (pdLc (own := [("_law_cell_here", 4)]) rfl sc.nd (pidL (pdVar (pv 1))) (blkOk_by (own := [("_law_cell_here", 4)]) (by kernel_rfl)) tg_name (keeps_name (by decide)) (fun _ _ _ _ _ => (pg_name (i := 4) sc.nd rfl (by first | exact Or.inl rfl | exact Or.inr rfl))) (fun _ _ _ _ _ => pbsNil) (fun _ _ _ _ _ => (pdIx (pdVar (pv 3)) (pdVar (pv 4))))) pdsNil)))))))))
theorem ok__law_new (Fn : Fun K "_law_new" "_law_new" s__law_new fa fd) (bl : Bl K mg C_RowError C_OutOfRange C_TooLong)  : FG P w K mg base 1 fa fd ["_law_one", "_law_window"] (spD K mg 2 PF.f__law_new) :=
  FG.body (k := 0) (N := N__law_new) Fn sc__law_new fun cdv A outer s H B E hr hg => by
  have sc := sc__law_new
  have tk : Takes (cxOf (L2.CX P w) P w K mg base N__law_new "_law_new" (defScope s__law_new) fa cdv A outer s H E) (fun c d _ H => E c d H) := takes_of rfl rfl rfl rfl
  have hp : PassesOwn (model P w) (cxOf (L2.CX P w) P w K mg base N__law_new "_law_new" (defScope s__law_new) fa cdv A outer s H E).A (cxOf (L2.CX P w) P w K mg base N__law_new "_law_new" (defScope s__law_new) fa cdv A outer s H E).env (cxOf (L2.CX P w) P w K mg base N__law_new "_law_new" (defScope s__law_new) fa cdv A outer s H E).xe := passes_of rfl
  exact (psdsCons (psdSetZ sc.nd (i := 2) rfl (Or.inl rfl) pdInt)
  (psdsCons (psdForD (D := [3]) hp rfl (pidL (pdVar (pv 1))) (pgdName sc.nd (i := 3) rfl (Or.inl rfl))
  (psdsOne (psdSetZ sc.nd (i := 2) rfl (Or.inl rfl) (pdAdd (pdMul (pdVar (pv 2)) (pdIx (pdVar (pv 0)) pdInt)) (pdVar (pv 3))))))
  (psdsOne (psdRet (pdIx (pdIx (pdVar (pv 0)) pdInt) (pdVar (pv 2)))))))
theorem ok__law_word (Fn : Fun K "_law_word" "_law_word" s__law_word fa fd) (bl : Bl K mg C_RowError C_OutOfRange C_TooLong) (h__law_new : Has P w K mg base 1 "_law_new" ["_law_one", "_law_window"] PF.f__law_new) : FG P w K mg base 2 fa fd ["_law_one", "_law_word_here"] (spD K mg 2 PF.f__law_word) :=
  FG.body (k := 1) (N := N__law_word) Fn sc__law_word fun cdv A outer s H B E hr hg => by
  have sc := sc__law_word
  have tk : Takes (cxOf (L2.CX P w) P w K mg base N__law_word "_law_word" (defScope s__law_word) fa cdv A outer s H E) (fun c d _ H => E c d H) := takes_of rfl rfl rfl rfl
  have hp : PassesOwn (model P w) (cxOf (L2.CX P w) P w K mg base N__law_word "_law_word" (defScope s__law_word) fa cdv A outer s H E).A (cxOf (L2.CX P w) P w K mg base N__law_word "_law_word" (defScope s__law_word) fa cdv A outer s H E).env (cxOf (L2.CX P w) P w K mg base N__law_word "_law_word" (defScope s__law_word) fa cdv A outer s H E).xe := passes_of rfl
  exact (psdsOne (psdRet (pdLc (own := [("_law_k", 2)]) rfl sc.nd (pidR1 bl.b_range (pdsCons (pdAdd (pdSub (pdB1 crLen bl.b_len rfl (pdVar (pv 1))) (pdIx (pdVar (pv 0)) pdInt)) pdInt) pdsNil)) (blkOk_by (own := [("_law_k", 2)]) (by kernel_rfl)) tg_name (keeps_name (by decide)) (fun _ _ _ _ _ => (pg_name (i := 2) sc.nd rfl (by first | exact Or.inl rfl | exact Or.inr rfl))) (fun _ _ _ _ _ => pbsNil) (fun _ _ _ _ _ => (pdCallH h__law_new hr hg takes0 (pdsCons (pdVar (pv 0)) (pdsCons (pdSl (pdVar (pv 1)) (ppS (pdVar (pv 2))) (ppS (pdAdd (pdVar (pv 2)) (pdIx (pdVar (pv 0)) pdInt)))) pdsNil)))))))
theorem ok__law_after (Fn : Fun K "_law_after" "_law_after" s__law_after fa fd) (bl : Bl K mg C_RowError C_OutOfRange C_TooLong) (h__law_words : Has P w K mg base 1 "_law_words" ["_law_size", "_law_length"] PF.f__law_words) (h__law_new : Has P w K mg base 1 "_law_new" ["_law_one", "_law_window"] PF.f__law_new) (h__law_word : Has P w K mg base 2 "_law_word" ["_law_one", "_law_word_here"] PF.f__law_word) : FG P w K mg base 3 fa fd ["_law_first", "_law_second"] (spD K mg 2 PF.f__law_after_v1) :=
  FG.body (k := 2) (N := N__law_after) Fn sc__law_after fun cdv A outer s H B E hr hg => by
  have sc := sc__law_after
  have tk : Takes (cxOf (L2.CX P w) P w K mg base N__law_after "_law_after" (defScope s__law_after) fa cdv A outer s H E) (fun c d _ H => E c d H) := takes_of rfl rfl rfl rfl
  have hp : PassesOwn (model P w) (cxOf (L2.CX P w) P w K mg base N__law_after "_law_after" (defScope s__law_after) fa cdv A outer s H E).A (cxOf (L2.CX P w) P w K mg base N__law_after "_law_after" (defScope s__law_after) fa cdv A outer s H E).env (cxOf (L2.CX P w) P w K mg base N__law_after "_law_after" (defScope s__law_after) fa cdv A outer s H E).xe := passes_of rfl
  exact (psdsCons (psdSetZ sc.nd (i := 2) rfl (Or.inl rfl) (pdSub (pdAdd (pdIx (pdVar (pv 0)) pdInt) (pdIx (pdVar (pv 1)) pdInt)) pdInt))
  (psdsCons (psdSetZLc (i := 3) (own := [("_law_word_here", 4)]) rfl sc.nd rfl rfl (sw_true rfl rfl rfl (by decide +kernel)) (pidL (pdCallH h__law_words hr hg tk (pdsCons (pdIx (pdVar (pv 0)) pdInt) (pdsCons (pdVar (pv 2)) pdsNil)))) (blkOk_by (own := [("_law_word_here", 4)]) (by kernel_rfl)) tg_name (keeps_name (by decide)) (fun _ _ _ _ _ => (pg_name (i := 4) sc.nd rfl (by first | exact Or.inl rfl | exact Or.inr rfl))) (fun _ _ _ _ _ => pbsNil) (fun _ _ _ _ _ => (pdCallH h__law_new hr hg takes0 (pdsCons (pdVar (pv 1)) (pdsCons (pdCallH h__law_word hr hg takes0 (pdsCons (pdVar (pv 0)) (pdsCons (pdVar (pv 4)) pdsNil))) pdsNil)))))
  (psdsOne (psdRet (pdTup (pdsCons (pdIx (pdVar (pv 0)) pdInt) (pdsCons (pdAdd (pdIx (pdVar (pv 0)) pdInt) (pdIx (pdVar (pv 1)) pdInt)) (pdsCons (pdVar (pv 2)) (pdsCons (pdVar (pv 3)) pdsNil)))))))))
theorem ok__law_map (Fn : Fun K "_law_map" "_law_map" s__law_map fa fd) (bl : Bl K mg C_RowError C_OutOfRange C_TooLong) (h__law_digits : Has P w K mg base 1 "_law_digits" ["_law_cell_here", "_law_base", "_law_most"] PF.f__law_digits_v1) (h__law_words : Has P w K mg base 1 "_law_words" ["_law_size", "_law_length"] PF.f__law_words) (h__law_order : Has P w K mg base 1 "_law_order" ["_law_size", "_law_draw"] PF.f__law_order_v1) (h__law_partial : Has P w K mg base 2 "_law_partial" ["_law_draw"] PF.f__law_partial) (h__law_after : Has P w K mg base 3 "_law_after" ["_law_first", "_law_second"] PF.f__law_after_v1) : FG P w K mg base 4 fa fd ["_law_first", "_law_second"] (spD K mg 2 PF.f__law_map_v1) :=
  FG.body (k := 3) (N := N__law_map) Fn sc__law_map fun cdv A outer s H B E hr hg => by
  have sc := sc__law_map
  have tk : Takes (cxOf (L2.CX P w) P w K mg base N__law_map "_law_map" (defScope s__law_map) fa cdv A outer s H E) (fun c d _ H => E c d H) := takes_of rfl rfl rfl rfl
  have hp : PassesOwn (model P w) (cxOf (L2.CX P w) P w K mg base N__law_map "_law_map" (defScope s__law_map) fa cdv A outer s H E).A (cxOf (L2.CX P w) P w K mg base N__law_map "_law_map" (defScope s__law_map) fa cdv A outer s H E).env (cxOf (L2.CX P w) P w K mg base N__law_map "_law_map" (defScope s__law_map) fa cdv A outer s H E).xe := passes_of rfl
  exact (psdsCons (psdSetZ sc.nd (i := 2) rfl (Or.inl rfl) (pdCallH h__law_digits hr hg tk (pdsCons (pdVar (pv 0)) (pdsCons pdInt (pdsCons pdInt pdsNil)))))
  (psdsCons (psdSetZ sc.nd (i := 3) rfl (Or.inr rfl) (pdCallH h__law_digits hr hg tk (pdsCons (pdVar (pv 1)) (pdsCons pdInt (pdsCons pdInt pdsNil)))))
  (psdsCons (psdSetZ sc.nd (i := 4) rfl (Or.inl rfl) (pdMod (pdIx (pdVar (pv 2)) pdInt) pdInt))
  (psdsCons (psdSetZ sc.nd (i := 5) rfl (Or.inl rfl) (pdSub (pdMod (pdIx (pdVar (pv 2)) pdInt) pdInt) pdInt))
  (psdsCons (psdSetZ sc.nd (i := 6) rfl (Or.inr rfl) (pdAdd pdInt (pdMod (pdIx (pdVar (pv 2)) pdInt) pdInt)))
  (psdsCons (psdSetZ sc.nd (i := 7) rfl (Or.inl rfl) (pdAdd pdInt (pdMod (pdIx (pdVar (pv 2)) pdInt) pdInt)))
  (psdsCons (psdIf (pbGt hr.units (pdVar (pv 6)) pdInt)
  (psdsOne (psdSetZ sc.nd (i := 7) rfl (Or.inl rfl) (pdAdd pdInt (pdMod (pdIx (pdVar (pv 2)) pdInt) (pdSub pdInt (pdVar (pv 6)))))))
  psdsNil)
  (psdsCons (psdIf ((pbAnd (pbGt hr.units (pdVar (pv 6)) pdInt) (pbAnd1 ((pbOr (pbEq hr.units (pdVar (pv 4)) pdInt) (pbOr1 (pbEq hr.units (pdVar (pv 4)) pdInt)))).pb))).pb
  (psdsOne (psdSetZ sc.nd (i := 6) rfl (Or.inr rfl) pdInt))
  psdsNil)
  (psdsCons (psdIf (pbLt hr.units (pdVar (pv 4)) pdInt)
  (psdsCons (psdSetZ sc.nd (i := 8) rfl (Or.inl rfl) (pdCallH h__law_words hr hg tk (pdsCons (pdVar (pv 6)) (pdsCons (pdVar (pv 7)) pdsNil))))
  (psdsOne (psdRet (pdTup (pdsCons (pdVar (pv 6)) (pdsCons (pdVar (pv 5)) (pdsCons (pdVar (pv 7)) (pdsCons (pdLc (own := [("_law_k", 9)]) rfl sc.nd (pidR1 bl.b_range (pdsCons (pdB1 crLen bl.b_len rfl (pdVar (pv 8))) pdsNil)) (blkOk_by (own := [("_law_k", 9)]) (by kernel_rfl)) tg_name (keeps_name (by decide)) (fun _ _ _ _ _ => (pg_name (i := 9) sc.nd rfl (by first | exact Or.inl rfl | exact Or.inr rfl))) (fun _ _ _ _ _ => pbsNil) (fun _ _ _ _ _ => (pdMod (pdIx (pdVar (pv 3)) (pdVar (pv 9))) (pdVar (pv 6))))) pdsNil))))))))
  psdsNil)
  (psdsCons (psdIf ((pbOr (pbEq hr.units (pdVar (pv 4)) pdInt) (pbOr1 (pbEq hr.units (pdVar (pv 4)) pdInt)))).pb
  (psdsCons (psdSet sc.nd (i := 10) rfl (Or.inl rfl) (pdList pdsNil))
  (psdsCons (psdForD (D := [11, 12, 13, 14]) hp rfl (pidL (pdCallH h__law_words hr hg tk (pdsCons (pdVar (pv 6)) (pdsCons pdInt pdsNil)))) (pgdName sc.nd (i := 11) rfl (Or.inl rfl))
  (psdsCons (psdSetZ sc.nd (i := 12) rfl (Or.inl rfl) (pdIf (pbEq hr.units (pdVar (pv 4)) pdInt) (pdSl (pdVar (pv 11)) (ppS pdInt) ppN) (pdSl (pdVar (pv 11)) ppN (ppS pdInt))))
  (psdsCons (psdSetZ sc.nd (i := 13) rfl (Or.inl rfl) (pdIf (pbEq hr.units (pdVar (pv 4)) pdInt) (pdIx (pdVar (pv 11)) pdInt) (pdIx (pdVar (pv 11)) pdInt)))
  (psdsCons (psdSetZ sc.nd (i := 14) rfl (Or.inr rfl) (pdCallH h__law_order hr hg tk (pdsCons (pdVar (pv 6)) (pdsCons (pdIx (pdVar (pv 3)) (pdAdd (pdMul (pdIx (pdVar (pv 12)) pdInt) (pdVar (pv 6))) (pdIx (pdVar (pv 12)) pdInt))) pdsNil))))
  (psdsOne (psdApp (pv 10) (pdIx (pdVar (pv 14)) (pdVar (pv 13)))))))))
  (psdsFr (i := 10) (psdsOne (psdRet (pdTup (pdsCons (pdVar (pv 6)) (pdsCons (pdVar (pv 5)) (pdsCons pdInt (pdsCons (pdVar (pv 10)) pdsNil))))))))))
  psdsNil)
  (psdsCons (psdIf (pbEq hr.units (pdVar (pv 4)) pdInt)
  (psdsCons (psdSetZ sc.nd (i := 14) rfl (Or.inr rfl) (pdCallH h__law_order hr hg tk (pdsCons (pdVar (pv 6)) (pdsCons (pdIx (pdVar (pv 3)) pdInt) pdsNil))))
  (psdsOne (psdRet (pdTup (pdsCons (pdVar (pv 6)) (pdsCons (pdVar (pv 5)) (pdsCons (pdVar (pv 7)) (pdsCons (pdLc (own := [("_law_word_here", 11)]) rfl sc.nd (pidL (pdCallH h__law_words hr hg tk (pdsCons (pdVar (pv 6)) (pdsCons (pdVar (pv 7)) pdsNil)))) (blkOk_by (own := [("_law_word_here", 11)]) (by kernel_rfl)) tg_name (keeps_name (by decide)) (fun _ _ _ _ _ => (pg_name (i := 11) sc.nd rfl (by first | exact Or.inl rfl | exact Or.inr rfl))) (fun _ _ _ _ _ => pbsNil) (fun _ _ _ _ _ => (pdIx (pdVar (pv 14)) (pdIx (pdVar (pv 11)) pdInt)))) pdsNil))))))))
  psdsNil)
  (psdsCons (psdSetZ sc.nd (i := 15) rfl (Or.inl rfl) (pdCallH h__law_partial hr hg tk (pdsCons (pdIx (pdVar (pv 3)) pdInt) pdsNil)))
  (psdsCons (psdIf (pbEq hr.units (pdVar (pv 4)) pdInt)
  (psdsCons (psdSetZ sc.nd (i := 16) rfl (Or.inl rfl) (pdCallH h__law_partial hr hg tk (pdsCons (pdIx (pdVar (pv 3)) pdInt) pdsNil)))
  (psdsCons (psdIf (pbEq hr.units (pdMod (pdIx (pdVar (pv 3)) pdInt) pdInt) pdInt)
  (psdsOne (psdSetZ sc.nd (i := 16) rfl (Or.inl rfl) (pdTup (pdsCons pdInt (pdsCons pdInt (pdsCons pdInt (pdsCons (pdCallH h__law_order hr hg tk (pdsCons pdInt (pdsCons (pdIx (pdVar (pv 3)) pdInt) pdsNil))) pdsNil)))))))
  psdsNil)
  (psdsOne (psdSetZ sc.nd (i := 15) rfl (Or.inl rfl) (pdCallH h__law_after hr hg tk (pdsCons (pdVar (pv 15)) (pdsCons (pdVar (pv 16)) pdsNil)))))))
  psdsNil)
  (psdsOne (psdRet (pdVar (pv 15)))))))))))))))))
theorem ok__law_cell (Fn : Fun K "_law_cell" "_law_cell" s__law_cell fa fd) (bl : Bl K mg C_RowError C_OutOfRange C_TooLong)  : FG P w K mg base 1 fa fd ["_law_script", "_law_k"] (spD K mg 2 PF.f__law_cell_v1) :=
  FG.body (k := 0) (N := N__law_cell) Fn sc__law_cell fun cdv A outer s H B E hr hg => by
  have sc := sc__law_cell
  have tk : Takes (cxOf (L2.CX P w) P w K mg base N__law_cell "_law_cell" (defScope s__law_cell) fa cdv A outer s H E) (fun c d _ H => E c d H) := takes_of rfl rfl rfl rfl
  have hp : PassesOwn (model P w) (cxOf (L2.CX P w) P w K mg base N__law_cell "_law_cell" (defScope s__law_cell) fa cdv A outer s H E).A (cxOf (L2.CX P w) P w K mg base N__law_cell "_law_cell" (defScope s__law_cell) fa cdv A outer s H E).env (cxOf (L2.CX P w) P w K mg base N__law_cell "_law_cell" (defScope s__law_cell) fa cdv A outer s H E).xe := passes_of rfl
  exact (psdsCons (psdIf (pbLt hr.units (pdVar (pv 1)) (pdB1 crLen bl.b_len rfl (pdVar (pv 0))))
  (psdsOne (psdRet (pdB1 crAbs bl.b_abs rfl (pdTy1 crInt bl.b_int rfl (pdIx (pdVar (pv 0)) (pdVar (pv 1)))))))
  psdsNil)
  (psdsOne (psdRet pdInt)))
theorem ok__law_simple (Fn : Fun K "_law_simple" "_law_simple" s__law_simple fa fd) (bl : Bl K mg C_RowError C_OutOfRange C_TooLong)  : FG P w K mg base 1 fa fd ["_law_row"] (spD K mg 1 PF.f__law_simple) :=
  FG.body (k := 0) (N := N__law_simple) Fn sc__law_simple fun cdv A outer s H B E hr hg => by
  have sc := sc__law_simple
  have tk : Takes (cxOf (L2.CX P w) P w K mg base N__law_simple "_law_simple" (defScope s__law_simple) fa cdv A outer s H E) (fun c d _ H => E c d H) := takes_of rfl rfl rfl rfl
  have hp : PassesOwn (model P w) (cxOf (L2.CX P w) P w K mg base N__law_simple "_law_simple" (defScope s__law_simple) fa cdv A outer s H E).A (cxOf (L2.CX P w) P w K mg base N__law_simple "_law_simple" (defScope s__law_simple) fa cdv A outer s H E).env (cxOf (L2.CX P w) P w K mg base N__law_simple "_law_simple" (defScope s__law_simple) fa cdv A outer s H E).xe := passes_of rfl
  exact (psdsCons (psdUnp (pdVar (pv 0)) (pgdTup rfl (pgdsCons sc.nd (i := 1) rfl (Or.inl rfl) (pgdsCons sc.nd (i := 2) rfl (Or.inl rfl) (pgdsCons sc.nd (i := 3) rfl (Or.inl rfl) pgdsNil)))))
  (psdsCons (psdSetZ sc.nd (i := 3) rfl (Or.inl rfl) (pdTyL crList cbLs bl.b_list rfl (pdVar (pv 3))))
  (psdsCons (psdWhileD (D := []) hp ((pbAnd (pbGt hr.units (pdB1 crLen bl.b_len rfl (pdVar (pv 3))) pdInt) (pbAnd1 (pbEq hr.units (pdIx (pdVar (pv 3)) pdInt) (pdVar (pv 1)))))).pb
  (psdsCons (psdSetZ sc.nd (i := 3) rfl (Or.inl rfl) (pdSl (pdVar (pv 3)) (ppS pdInt) ppN))
  (psdsOne (psdSetZ sc.nd (i := 2) rfl (Or.inl rfl) (pdAdd (pdVar (pv 2)) pdInt)))))
  (psdsCons (psdWhileD (D := []) hp ((pbAnd (pbGt hr.units (pdB1 crLen bl.b_len rfl (pdVar (pv 3))) pdInt) (pbAnd1 (pbEq hr.units (pdIx (pdVar (pv 3)) (pdSub (pdB1 crLen bl.b_len rfl (pdVar (pv 3))) pdInt)) (pdVar (pv 1)))))).pb
  (psdsOne (psdSetZ sc.nd (i := 3) rfl (Or.inl rfl) (pdSl (pdVar (pv 3)) ppN (ppS (pdSub (pdB1 crLen bl.b_len rfl (pdVar (pv 3))) pdInt))))))
  (psdsOne (psdRet (pdTup (pdsCons (pdVar (pv 1)) (pdsCons (pdIf (pbGt hr.units (pdB1 crLen bl.b_len rfl (pdVar (pv 3))) pdInt) (pdVar (pv 2)) pdInt) (pdsCons (pdVar (pv 3)) pdsNil))))))))))
theorem ok__law_image (Fn : Fun K "_law_image" "_law_image" s__law_image fa fd) (bl : Bl K mg C_RowError C_OutOfRange C_TooLong) (h__law_new : Has P w K mg base 1 "_law_new" ["_law_one", "_law_window"] PF.f__law_new) (h__law_simple : Has P w K mg base 1 "_law_simple" ["_law_row"] PF.f__law_simple) (h__law_word : Has P w K mg base 2 "_law_word" ["_law_one", "_law_word_here"] PF.f__law_word) : FG P w K mg base 3 fa fd ["_law_one", "_law_row"] (spD K mg 2 PF.f__law_image) :=
  FG.body (k := 2) (N := N__law_image) Fn sc__law_image fun cdv A outer s H B E hr hg => by
  have sc := sc__law_image
  have tk : Takes (cxOf (L2.CX P w) P w K mg base N__law_image "_law_image" (defScope s__law_image) fa cdv A outer s H E) (fun c d _ H => E c d H) := takes_of rfl rfl rfl rfl
  have hp : PassesOwn (model P w) (cxOf (L2.CX P w) P w K mg base N__law_image "_law_image" (defScope s__law_image) fa cdv A outer s H E).A (cxOf (L2.CX P w) P w K mg base N__law_image "_law_image" (defScope s__law_image) fa cdv A outer s H E).env (cxOf (L2.CX P w) P w K mg base N__law_image "_law_image" (defScope s__law_image) fa cdv A outer s H E).xe := passes_of rfl
  exact (psdsCons (psdUnp (pdVar (pv 1)) (pgdTup rfl (pgdsCons sc.nd (i := 2) rfl (Or.inl rfl) (pgdsCons sc.nd (i := 3) rfl (Or.inl rfl) (pgdsCons sc.nd (i := 4) rfl (Or.inl rfl) pgdsNil)))))
  (psdsCons (psdSetZ sc.nd (i := 5) rfl (Or.inl rfl) (pdIx (pdVar (pv 0)) pdInt))
  (psdsCons (psdSetZ sc.nd (i := 6) rfl (Or.inl rfl) (pdAdd (pdAdd (pdMul (pdList (pdsCons (pdVar (pv 2)) pdsNil)) (pdSub (pdVar (pv 5)) pdInt)) (pdVar (pv 4))) (pdMul (pdList (pdsCons (pdVar (pv 2)) pdsNil)) (pdSub (pdVar (pv 5)) pdInt))))
  (psdsCons (psdSetZ sc.nd (i := 7) rfl (Or.inl rfl) (pdCallH h__law_new hr hg tk (pdsCons (pdVar (pv 0)) (pdsCons (pdMul (pdList (pdsCons (pdVar (pv 2)) pdsNil)) (pdVar (pv 5))) pdsNil))))
  (psdsOne (psdRet (pdCallH h__law_simple hr hg tk (pdsCons (pdTup (pdsCons (pdVar (pv 7)) (pdsCons (pdAdd (pdSub (pdSub (pdVar (pv 3)) (pdIx (pdVar (pv 0)) pdInt)) (pdVar (pv 5))) pdInt) (pdsCons (pdCallH h__law_word hr hg tk (pdsCons (pdVar (pv 0)) (pdsCons (pdVar (pv 6)) pdsNil))) pdsNil)))) pdsNil))))))))
theorem ok__law_return (Fn : Fun K "_law_return" "_law_return" s__law_return fa fd) (bl : Bl K mg C_RowError C_OutOfRange C_TooLong) (h__law_image : Has P w K mg base 3 "_law_image" ["_law_one", "_law_row"] PF.f__law_image) : FG P w K mg base 4 fa fd ["_law_one", "_law_cells", "_law_most"] (spD K mg 3 PF.f__law_return) :=
  FG.body (k := 3) (N := N__law_return) Fn sc__law_return fun cdv A outer s H B E hr hg => by
  have sc := sc__law_return
  have tk : Takes (cxOf (L2.CX P w) P w K mg base N__law_return "_law_return" (defScope s__law_return) fa cdv A outer s H E) (fun c d _ H => E c d H) := takes_of rfl rfl rfl rfl
  have hp : PassesOwn (model P w) (cxOf (L2.CX P w) P w K mg base N__law_return "_law_return" (defScope s__law_return) fa cdv A outer s H E).A (cxOf (L2.CX P w) P w K mg base N__law_return "_law_return" (defScope s__law_return) fa cdv A outer s H E).env (cxOf (L2.CX P w) P w K mg base N__law_return "_law_return" (defScope s__law_return) fa cdv A outer s H E).xe := passes_of rfl
  exact (psdsCons (psdSetZ sc.nd (i := 3) rfl (Or.inl rfl) (pdTup (pdsCons pdInt (pdsCons pdInt (pdsCons (pdVar (pv 1)) pdsNil)))))
  (psdsCons (psdForD (D := [4]) hp rfl (pidR2 bl.b_range (pdsCons pdInt (pdsCons (pdAdd (pdVar (pv 2)) pdInt) pdsNil))) (pgdName sc.nd (i := 4) rfl (Or.inl rfl))
  (psdsCons (psdSetZ sc.nd (i := 3) rfl (Or.inl rfl) (pdCallH h__law_image hr hg tk (pdsCons (pdVar (pv 0)) (pdsCons (pdVar (pv 3)) pdsNil))))
  (psdsOne (psdIf ((pbAnd (pbEq hr.units (pdIx (pdVar (pv 3)) pdInt) pdInt) (pbAnd1 (pbEq hr.units (pdIx (pdVar (pv 3)) pdInt) (pdVar (pv 1)))))).pb
  (psdsOne (psdRet (pdTup (pdsCons (pdVar (pv 4)) (pdsCons (pdIx (pdVar (pv 3)) pdInt) pdsNil)))))
  psdsNil))))
  (psdsFg (D := [3]) (psdsOne (psdRet pdNon)))))
theorem ok_count_words (Fn : Fun K "count_words" "count_words" s_count_words fa fd) (bl : Bl K mg C_RowError C_OutOfRange C_TooLong)  : FG P w K mg base 1 fa fd ["size", "length"] (spD K mg 2 PF.f_count_words) :=
  FG.body (k := 0) (N := N_count_words) Fn sc_count_words fun cdv A outer s H B E hr hg => by
  have sc := sc_count_words
  have tk : Takes (cxOf (L2.CX P w) P w K mg base N_count_words "count_words" (defScope s_count_words) fa cdv A outer s H E) (fun c d _ H => E c d H) := takes_of rfl rfl rfl rfl
  have hp : PassesOwn (model P w) (cxOf (L2.CX P w) P w K mg base N_count_words "count_words" (defScope s_count_words) fa cdv A outer s H E).A (cxOf (L2.CX P w) P w K mg base N_count_words "count_words" (defScope s_count_words) fa cdv A outer s H E).env (cxOf (L2.CX P w) P w K mg base N_count_words "count_words" (defScope s_count_words) fa cdv A outer s H E).xe := passes_of rfl
  exact (psdsCons (psdSetZ sc.nd (i := 2) rfl (Or.inl rfl) pdInt)
  (psdsCons (psdForD (D := [3]) hp rfl (pidR1 bl.b_range (pdsCons (pdVar (pv 1)) pdsNil)) (pgdName sc.nd (i := 3) rfl (Or.inl rfl))
  (psdsOne (psdSetZ sc.nd (i := 2) rfl (Or.inl rfl) (pdMul (pdVar (pv 2)) (pdVar (pv 0))))))
  (psdsOne (psdRet (pdVar (pv 2))))))
theorem ok_digits_of (Fn : Fun K "digits_of" "digits_of" s_digits_of fa fd) (bl : Bl K mg C_RowError C_OutOfRange C_TooLong)  : FG P w K mg base 1 fa fd ["size", "number", "count"] (spD K mg 3 PF.f_digits_of) :=
  FG.body (k := 0) (N := N_digits_of) Fn sc_digits_of fun cdv A outer s H B E hr hg => by
  have sc := sc_digits_of
  have tk : Takes (cxOf (L2.CX P w) P w K mg base N_digits_of "digits_of" (defScope s_digits_of) fa cdv A outer s H E) (fun c d _ H => E c d H) := takes_of rfl rfl rfl rfl
  have hp : PassesOwn (model P w) (cxOf (L2.CX P w) P w K mg base N_digits_of "digits_of" (defScope s_digits_of) fa cdv A outer s H E).A (cxOf (L2.CX P w) P w K mg base N_digits_of "digits_of" (defScope s_digits_of) fa cdv A outer s H E).env (cxOf (L2.CX P w) P w K mg base N_digits_of "digits_of" (defScope s_digits_of) fa cdv A outer s H E).xe := passes_of rfl
  exact (psdsCons (psdSet sc.nd (i := 3) rfl (Or.inl rfl) (pdList pdsNil))
  (psdsCons (psdForD (D := [4]) hp rfl (pidR1 bl.b_range (pdsCons (pdVar (pv 2)) pdsNil)) (pgdName sc.nd (i := 4) rfl (Or.inl rfl))
  (psdsCons (psdApp (pv 3) (pdMod (pdVar (pv 1)) (pdVar (pv 0))))
  (psdsOne (psdSetZ sc.nd (i := 1) rfl (Or.inl rfl) (pdDiv (pdVar (pv 1)) (pdVar (pv 0)))))))
  (psdsFg (D := [1]) (psdsOne (psdRet (pdRev (pdVar (pv 3))))))))
theorem ok_spread_simple (Fn : Fun K "spread_simple" "spread_simple" s_spread_simple fa fd) (bl : Bl K mg C_RowError C_OutOfRange C_TooLong)  : FG P w K mg base 1 fa fd ["row"] (spD K mg 1 PF.f_spread_simple) :=
  FG.body (k := 0) (N := N_spread_simple) Fn sc_spread_simple fun cdv A outer s H B E hr hg => by
  have sc := sc_spread_simple
  have tk : Takes (cxOf (L2.CX P w) P w K mg base N_spread_simple "spread_simple" (defScope s_spread_simple) fa cdv A outer s H E) (fun c d _ H => E c d H) := takes_of rfl rfl rfl rfl
  have hp : PassesOwn (model P w) (cxOf (L2.CX P w) P w K mg base N_spread_simple "spread_simple" (defScope s_spread_simple) fa cdv A outer s H E).A (cxOf (L2.CX P w) P w K mg base N_spread_simple "spread_simple" (defScope s_spread_simple) fa cdv A outer s H E).env (cxOf (L2.CX P w) P w K mg base N_spread_simple "spread_simple" (defScope s_spread_simple) fa cdv A outer s H E).xe := passes_of rfl
  exact (psdsCons (psdUnp (pdVar (pv 0)) (pgdTup rfl (pgdsCons sc.nd (i := 1) rfl (Or.inl rfl) (pgdsCons sc.nd (i := 2) rfl (Or.inl rfl) (pgdsCons sc.nd (i := 3) rfl (Or.inl rfl) pgdsNil)))))
  (psdsCons (psdSetZ sc.nd (i := 4) rfl (Or.inl rfl) pdInt)
  (psdsCons (psdWhileD (D := []) hp ((pbAnd (pbLt hr.units (pdVar (pv 4)) (pdB1 crLen bl.b_len rfl (pdVar (pv 3)))) (pbAnd1 (pbEq hr.units (pdIx (pdVar (pv 3)) (pdVar (pv 4))) (pdVar (pv 1)))))).pb
  (psdsOne (psdAug sc.nd (i := 4) rfl (Or.inl rfl) pdInt iopAdd)))
  (psdsCons (psdSetZ sc.nd (i := 5) rfl (Or.inl rfl) (pdB1 crLen bl.b_len rfl (pdVar (pv 3))))
  (psdsCons (psdWhileD (D := []) hp ((pbAnd (pbGt hr.units (pdVar (pv 5)) (pdVar (pv 4))) (pbAnd1 (pbEq hr.units (pdIx (pdVar (pv 3)) (pdSub (pdVar (pv 5)) pdInt)) (pdVar (pv 1)))))).pb
  (psdsOne (psdAug sc.nd (i := 5) rfl (Or.inl rfl) pdInt iopSub)))
  (psdsCons (psdIf (pbEq hr.units (pdVar (pv 4)) (pdVar (pv 5)))
  (psdsOne (psdRet (pdTup (pdsCons (pdVar (pv 1)) (pdsCons pdInt (pdsCons (pdList pdsNil) pdsNil))))))
  psdsNil)
  (psdsOne (psdRet (pdTup (pdsCons (pdVar (pv 1)) (pdsCons (pdAdd (pdVar (pv 2)) (pdVar (pv 4))) (pdsCons (pdSl (pdVar (pv 3)) (ppS (pdVar (pv 4))) (ppS (pdVar (pv 5)))) pdsNil))))))))))))
theorem ok_number_of (Fn : Fun K "number_of" "number_of" s_number_of fa fd) (bl : Bl K mg C_RowError C_OutOfRange C_TooLong)  : FG P w K mg base 1 fa fd ["size", "digits"] (spD K mg 2 PF.f_number_of) :=
  FG.body (k := 0) (N := N_number_of) Fn sc_number_of fun cdv A outer s H B E hr hg => by
  have sc := sc_number_of
  have tk : Takes (cxOf (L2.CX P w) P w K mg base N_number_of "number_of" (defScope s_number_of) fa cdv A outer s H E) (fun c d _ H => E c d H) := takes_of rfl rfl rfl rfl
  have hp : PassesOwn (model P w) (cxOf (L2.CX P w) P w K mg base N_number_of "number_of" (defScope s_number_of) fa cdv A outer s H E).A (cxOf (L2.CX P w) P w K mg base N_number_of "number_of" (defScope s_number_of) fa cdv A outer s H E).env (cxOf (L2.CX P w) P w K mg base N_number_of "number_of" (defScope s_number_of) fa cdv A outer s H E).xe := passes_of rfl
  exact (psdsCons (psdSetZ sc.nd (i := 2) rfl (Or.inl rfl) pdInt)
  (psdsCons (psdForD (D := [3]) hp rfl (pidL (pdVar (pv 1))) (pgdName sc.nd (i := 3) rfl (Or.inl rfl))
  (psdsOne (psdSetZ sc.nd (i := 2) rfl (Or.inl rfl) (pdAdd (pdMul (pdVar (pv 2)) (pdVar (pv 0))) (pdVar (pv 3))))))
  (psdsOne (psdRet (pdVar (pv 2))))))
theorem ok_new_cell (Fn : Fun K "new_cell" "new_cell" s_new_cell fa fd) (bl : Bl K mg C_RowError C_OutOfRange C_TooLong) (h_number_of : Has P w K mg base 1 "number_of" ["size", "digits"] PF.f_number_of) : FG P w K mg base 2 fa fd ["one", "window"] (spD K mg 2 PF.f_new_cell) :=
  FG.body (k := 1) (N := N_new_cell) Fn sc_new_cell fun cdv A outer s H B E hr hg => by
  have sc := sc_new_cell
  have tk : Takes (cxOf (L2.CX P w) P w K mg base N_new_cell "new_cell" (defScope s_new_cell) fa cdv A outer s H E) (fun c d _ H => E c d H) := takes_of rfl rfl rfl rfl
  have hp : PassesOwn (model P w) (cxOf (L2.CX P w) P w K mg base N_new_cell "new_cell" (defScope s_new_cell) fa cdv A outer s H E).A (cxOf (L2.CX P w) P w K mg base N_new_cell "new_cell" (defScope s_new_cell) fa cdv A outer s H E).env (cxOf (L2.CX P w) P w K mg base N_new_cell "new_cell" (defScope s_new_cell) fa cdv A outer s H E).xe := passes_of rfl
  exact (psdsOne (psdRet (pdIx (pdIx (pdVar (pv 0)) pdInt) (pdCallH h_number_of hr hg tk (pdsCons (pdIx (pdVar (pv 0)) pdInt) (pdsCons (pdVar (pv 1)) pdsNil))))))
theorem ok_apply_word (Fn : Fun K "apply_word" "apply_word" s_apply_word fa fd) (bl : Bl K mg C_RowError C_OutOfRange C_TooLong) (h_new_cell : Has P w K mg base 2 "new_cell" ["one", "window"] PF.f_new_cell) : FG P w K mg base 3 fa fd ["one", "word"] (spD K mg 2 PF.f_apply_word) :=
  FG.body (k := 2) (N := N_apply_word) Fn sc_apply_word fun cdv A outer s H B E hr hg => by
  have sc := sc_apply_word
  have tk : Takes (cxOf (L2.CX P w) P w K mg base N_apply_word "apply_word" (defScope s_apply_word) fa cdv A outer s H E) (fun c d _ H => E c d H) := takes_of rfl rfl rfl rfl
  have hp : PassesOwn (model P w) (cxOf (L2.CX P w) P w K mg base N_apply_word "apply_word" (defScope s_apply_word) fa cdv A outer s H E).A (cxOf (L2.CX P w) P w K mg base N_apply_word "apply_word" (defScope s_apply_word) fa cdv A outer s H E).env (cxOf (L2.CX P w) P w K mg base N_apply_word "apply_word" (defScope s_apply_word) fa cdv A outer s H E).xe := passes_of rfl
  exact (psdsCons (psdSetZ sc.nd (i := 2) rfl (Or.inr rfl) (pdIx (pdVar (pv 0)) pdInt))
  (psdsOne (psdRet (pdLc (own := [("at", 3)]) rfl sc.nd (pidR1 bl.b_range (pdsCons (pdAdd (pdSub (pdB1 crLen bl.b_len rfl (pdVar (pv 1))) (pdVar (pv 2))) pdInt) pdsNil)) (blkOk_by (own := [("at", 3)]) (by kernel_rfl)) tg_name (keeps_name (by decide)) (fun _ _ _ _ _ => (pg_name (i := 3) sc.nd rfl (by first | exact Or.inl rfl | exact Or.inr rfl))) (fun _ _ _ _ _ => pbsNil) (fun _ _ _ _ _ => (pdCallH h_new_cell hr hg takes0 (pdsCons (pdVar (pv 0)) (pdsCons (pdSl (pdVar (pv 1)) (ppS (pdVar (pv 3))) (ppS (pdAdd (pdVar (pv 3)) (pdVar (pv 2))))) pdsNil))))))))
theorem ok_spread_image (Fn : Fun K "spread_image" "spread_image" s_spread_image fa fd) (bl : Bl K mg C_RowError C_OutOfRange C_TooLong) (h_apply_word : Has P w K mg base 3 "apply_word" ["one", "word"] PF.f_apply_word) (h_spread_simple : Has P w K mg base 1 "spread_simple" ["row"] PF.f_spread_simple) (h_new_cell : Has P w K mg base 2 "new_cell" ["one", "window"] PF.f_new_cell) : FG P w K mg base 4 fa fd ["one", "row"] (spD K mg 2 PF.f_spread_image) :=
  FG.body (k := 3) (N := N_spread_image) Fn sc_spread_image fun cdv A outer s H B E hr hg => by
  have sc := sc_spread_image
  have tk : Takes (cxOf (L2.CX P w) P w K mg base N_spread_image "spread_image" (defScope s_spread_image) fa cdv A outer s H E) (fun c d _ H => E c d H) := takes_of rfl rfl rfl rfl
  have hp : PassesOwn (model P w) (cxOf (L2.CX P w) P w K mg base N_spread_image "spread_image" (defScope s_spread_image) fa cdv A outer s H E).A (cxOf (L2.CX P w) P w K mg base N_spread_image "spread_image" (defScope s_spread_image) fa cdv A outer s H E).env (cxOf (L2.CX P w) P w K mg base N_spread_image "spread_image" (defScope s_spread_image) fa cdv A outer s H E).xe := passes_of rfl
  exact (psdsCons (psdUnp (pdVar (pv 0)) (pgdTup rfl (pgdsCons sc.nd (i := 2) rfl (Or.inl rfl) (pgdsCons sc.nd (i := 3) rfl (Or.inl rfl) (pgdsCons sc.nd (i := 4) rfl (Or.inl rfl) (pgdsCons sc.nd (i := 2) rfl (Or.inl rfl) pgdsNil))))))
  (psdsCons (psdUnp (pdVar (pv 1)) (pgdTup rfl (pgdsCons sc.nd (i := 5) rfl (Or.inl rfl) (pgdsCons sc.nd (i := 6) rfl (Or.inl rfl) (pgdsCons sc.nd (i := 7) rfl (Or.inl rfl) pgdsNil)))))
  (psdsCons (psdSetZ sc.nd (i := 8) rfl (Or.inl rfl) (pdMul (pdList (pdsCons (pdVar (pv 5)) pdsNil)) (pdSub (pdVar (pv 4)) pdInt)))
  (psdsCons (psdSetZ sc.nd (i := 9) rfl (Or.inl rfl) (pdCallH h_apply_word hr hg tk (pdsCons (pdVar (pv 0)) (pdsCons (pdAdd (pdAdd (pdVar (pv 8)) (pdVar (pv 7))) (pdVar (pv 8))) pdsNil))))
  (psdsOne (psdRet (pdCallH h_spread_simple hr hg tk (pdsCons (pdTup (pdsCons (pdCallH h_new_cell hr hg tk (pdsCons (pdVar (pv 0)) (pdsCons (pdMul (pdList (pdsCons (pdVar (pv 5)) pdsNil)) (pdVar (pv 4))) pdsNil))) (pdsCons (pdSub (pdAdd (pdSub (pdVar (pv 6)) (pdVar (pv 4))) pdInt) (pdVar (pv 3))) (pdsCons (pdVar (pv 9)) pdsNil)))) pdsNil))))))))
theorem ok_return_of (Fn : Fun K "return_of" "return_of" s_return_of fa fd) (bl : Bl K mg C_RowError C_OutOfRange C_TooLong) (h_spread_simple : Has P w K mg base 1 "spread_simple" ["row"] PF.f_spread_simple) (h_spread_image : Has P w K mg base 4 "spread_image" ["one", "row"] PF.f_spread_image) : FG P w K mg base 5 fa fd ["one", "row", "most"] (spD K mg 3 PF.f_return_of) :=
  FG.body (k := 4) (N := N_return_of) Fn sc_return_of fun cdv A outer s H B E hr hg => by
  have sc := sc_return_of
  have tk : Takes (cxOf (L2.CX P w) P w K mg base N_return_of "return_of" (defScope s_return_of) fa cdv A outer s H E) (fun c d _ H => E c d H) := takes_of rfl rfl rfl rfl
  have hp : PassesOwn (model P w) (cxOf (L2.CX P w) P w K mg base N_return_of "return_of" (defScope s_return_of) fa cdv A outer s H E).A (cxOf (L2.CX P w) P w K mg base N_return_of "return_of" (defScope s_return_of) fa cdv A outer s H E).env (cxOf (L2.CX P w) P w K mg base N_return_of "return_of" (defScope s_return_of) fa cdv A outer s H E).xe := passes_of rfl
  exact (psdsCons (psdIf (pbLt hr.units (pdVar (pv 2)) pdInt)
  (psdsOne (psdRaise rfl tk bl.f_OutOfRange))
  psdsNil)
  (psdsCons (psdUnp (pdCallH h_spread_simple hr hg tk (pdsCons (pdVar (pv 1)) pdsNil)) (pgdTup rfl (pgdsCons sc.nd (i := 3) rfl (Or.inl rfl) (pgdsCons sc.nd (i := 4) rfl (Or.inl rfl) (pgdsCons sc.nd (i := 5) rfl (Or.inl rfl) pgdsNil)))))
  (psdsCons (psdSetZ sc.nd (i := 6) rfl (Or.inl rfl) (pdTup (pdsCons (pdVar (pv 3)) (pdsCons (pdVar (pv 4)) (pdsCons (pdVar (pv 5)) pdsNil)))))
  (psdsCons (psdForD (D := [7]) hp rfl (pidR2 bl.b_range (pdsCons pdInt (pdsCons (pdAdd (pdVar (pv 2)) pdInt) pdsNil))) (pgdName sc.nd (i := 7) rfl (Or.inl rfl))
  (psdsCons (psdSetZ sc.nd (i := 6) rfl (Or.inl rfl) (pdCallH h_spread_image hr hg tk (pdsCons (pdVar (pv 0)) (pdsCons (pdVar (pv 6)) pdsNil))))
  (psdsCons (psdIf (pbGt hr.units (pdB1 crLen bl.b_len rfl (pdIx (pdVar (pv 6)) pdInt)) (pdGloI bl.v_MOST_CELLS))
  (psdsOne (psdRet pdNon))
  psdsNil)
  (psdsOne (psdIf ((pbAnd (pbEq hr.units (pdIx (pdVar (pv 6)) pdInt) (pdVar (pv 3))) (pbAnd1 (pbEq hr.units (pdIx (pdVar (pv 6)) pdInt) (pdVar (pv 5)))))).pb
  (psdsOne (psdRet (pdTup (pdsCons (pdVar (pv 7)) (pdsCons (pdSub (pdIx (pdVar (pv 6)) pdInt) (pdVar (pv 4))) pdsNil)))))
  psdsNil)))))
  (psdsFg (D := [6]) (psdsOne (psdRet pdNon)))))))
theorem ok_patterns (Fn : Fun K "patterns" "patterns" s_patterns fa fd) (bl : Bl K mg C_RowError C_OutOfRange C_TooLong) (h_count_words : Has P w K mg base 1 "count_words" ["size", "length"] PF.f_count_words) (h_digits_of : Has P w K mg base 1 "digits_of" ["size", "number", "count"] PF.f_digits_of) (h_return_of : HasK P w K mg base 5 "return_of" ["one", "row", "most"] ["most"] 2 PF.f_return_of) : FG P w K mg base 6 fa fd ["one", "length", "most"] (spD K mg 3 PF.f_patterns) :=
  FG.body (k := 5) (N := N_patterns) Fn sc_patterns fun cdv A outer s H B E hr hg => by
  have sc := sc_patterns
  have tk : Takes (cxOf (L2.CX P w) P w K mg base N_patterns "patterns" (defScope s_patterns) fa cdv A outer s H E) (fun c d _ H => E c d H) := takes_of rfl rfl rfl rfl
  have hp : PassesOwn (model P w) (cxOf (L2.CX P w) P w K mg base N_patterns "patterns" (defScope s_patterns) fa cdv A outer s H E).A (cxOf (L2.CX P w) P w K mg base N_patterns "patterns" (defScope s_patterns) fa cdv A outer s H E).env (cxOf (L2.CX P w) P w K mg base N_patterns "patterns" (defScope s_patterns) fa cdv A outer s H E).xe := passes_of rfl
  exact (psdsCons (psdIf ((pbOr (pbLt hr.units (pdVar (pv 1)) pdInt) (pbOr1 (pbLt hr.units (pdVar (pv 2)) pdInt)))).pb
  (psdsOne (psdRaise rfl tk bl.f_OutOfRange))
  psdsNil)
  (psdsCons (psdSetZ sc.nd (i := 3) rfl (Or.inl rfl) (pdIx (pdVar (pv 0)) pdInt))
  (psdsCons (psdIf (pbGt hr.units (pdCallH h_count_words hr hg tk (pdsCons (pdVar (pv 3)) (pdsCons (pdB2 (crMin2 rfl) bl.b_min rfl (pdVar (pv 1)) pdInt) pdsNil))) (pdGloI bl.v_MOST_WORDS))
  (psdsOne (psdRaise rfl tk bl.f_TooLong))
  psdsNil)
  (psdsCons (psdSet sc.nd (i := 4) rfl (Or.inl rfl) (pdList pdsNil))
  (psdsCons (psdForD (D := [5, 6, 7, 8]) hp rfl (pidR2 bl.b_range (pdsCons pdInt (pdsCons (pdAdd (pdVar (pv 1)) pdInt) pdsNil))) (pgdName sc.nd (i := 5) rfl (Or.inl rfl))
  (psdsOne (psdForD (D := [6, 7, 8]) hp rfl (pidR2 bl.b_range (pdsCons (pdCallH h_count_words hr hg tk (pdsCons (pdVar (pv 3)) (pdsCons (pdSub (pdVar (pv 5)) pdInt) pdsNil))) (pdsCons (pdCallH h_count_words hr hg tk (pdsCons (pdVar (pv 3)) (pdsCons (pdVar (pv 5)) pdsNil))) pdsNil))) (pgdName sc.nd (i := 6) rfl (Or.inl rfl))
  (psdsOne (psdIf (pbNe hr.units (pdMod (pdVar (pv 6)) (pdVar (pv 3))) pdInt)
  (psdsCons (psdSetZ sc.nd (i := 7) rfl (Or.inl rfl) (pdCallH h_digits_of hr hg tk (pdsCons (pdVar (pv 3)) (pdsCons (pdVar (pv 6)) (pdsCons (pdVar (pv 5)) pdsNil)))))
  (psdsCons (psdSetZ sc.nd (i := 8) rfl (Or.inl rfl) (pdCallHK h_return_of hr hg tk (pdsCons (pdVar (pv 0)) (pdsCons (pdTup (pdsCons pdInt (pdsCons pdInt (pdsCons (pdVar (pv 7)) pdsNil)))) pdsNil)) (pdVar (pv 2))))
  (psdsOne (psdIf (pbIsNot (pdVar (pv 8)) pdNon)
  (psdsOne (psdApp (pv 4) (pdTup (pdsCons (pdVar (pv 7)) (pdsCons (pdIx (pdVar (pv 8)) pdInt) (pdsCons (pdIx (pdVar (pv 8)) pdInt) pdsNil))))))
  psdsNil))))
  psdsNil)))))
  (psdsOne (psdRetOwn (pv 4))))))))
theorem ok__law_plain_1 (Fn : Fun K "_law_plain" "_law_plain" s__law_plain fa fd) (bl : Bl K mg C_RowError C_OutOfRange C_TooLong)  (h__law_plain : Has P w K mg base 1 "_law_plain" ["_law_item"] PF.f__law_plain_v1_0) : FG P w K mg base 2 fa fd ["_law_item"] (spD K mg 1 PF.f__law_plain_v1_1) :=
  FG.body (k := 1) (N := N__law_plain) Fn sc__law_plain fun cdv A outer s H B E hr hg => by
  have sc := sc__law_plain
  have tk : Takes (cxOf (L2.CX P w) P w K mg base N__law_plain "_law_plain" (defScope s__law_plain) fa cdv A outer s H E) (fun c d _ H => E c d H) := takes_of rfl rfl rfl rfl
  have hp : PassesOwn (model P w) (cxOf (L2.CX P w) P w K mg base N__law_plain "_law_plain" (defScope s__law_plain) fa cdv A outer s H E).A (cxOf (L2.CX P w) P w K mg base N__law_plain "_law_plain" (defScope s__law_plain) fa cdv A outer s H E).env (cxOf (L2.CX P w) P w K mg base N__law_plain "_law_plain" (defScope s__law_plain) fa cdv A outer s H E).xe := passes_of rfl
  exact (psdsCons (psdIf (pbTruth (pdIsLT (pdVar (pv 0)) bl.b_isinstance (pa_cons (pe_bltn (v := .ty "list") rfl bl.b_list rfl rfl) (pa_cons (pe_bltn (v := .ty "tuple") rfl bl.b_tuple rfl rfl) pa_nil)) (fun _ _ _ h => h)))
  (psdsOne (psdRet (pdEq hr.units (pdB1 crLen bl.b_len rfl (pdLc (own := [("_law_part", 1)]) rfl sc.nd (pidS (pdVar (pv 0))) (blkOk_by (own := [("_law_part", 1)]) (by kernel_rfl)) tg_name (keeps_name (by decide)) (fun _ _ _ _ _ => (pg_name (i := 1) sc.nd rfl (by first | exact Or.inl rfl | exact Or.inr rfl))) (fun _ _ _ _ _ => (pbsOne (pbNot (pbTruth (pdCallH h__law_plain hr hg takes0 (pdsCons (pdVar (pv 1)) pdsNil)))))) (fun _ _ _ _ _ => (pdVar (pv 1))))) pdInt)))
  psdsNil)
  (psdsOne (psdRet (pdNot (pdIsa isaBool (pdVar (pv 0)) bl.b_isinstance bl.b_bool rfl)))))
theorem ok__law_plain_2 (Fn : Fun K "_law_plain" "_law_plain" s__law_plain fa fd) (bl : Bl K mg C_RowError C_OutOfRange C_TooLong)  (h__law_plain : Has P w K mg base 2 "_law_plain" ["_law_item"] PF.f__law_plain_v1_1) : FG P w K mg base 3 fa fd ["_law_item"] (spD K mg 1 PF.f__law_plain_v1_2) :=
  FG.body (k := 2) (N := N__law_plain) Fn sc__law_plain fun cdv A outer s H B E hr hg => by
  have sc := sc__law_plain
  have tk : Takes (cxOf (L2.CX P w) P w K mg base N__law_plain "_law_plain" (defScope s__law_plain) fa cdv A outer s H E) (fun c d _ H => E c d H) := takes_of rfl rfl rfl rfl
  have hp : PassesOwn (model P w) (cxOf (L2.CX P w) P w K mg base N__law_plain "_law_plain" (defScope s__law_plain) fa cdv A outer s H E).A (cxOf (L2.CX P w) P w K mg base N__law_plain "_law_plain" (defScope s__law_plain) fa cdv A outer s H E).env (cxOf (L2.CX P w) P w K mg base N__law_plain "_law_plain" (defScope s__law_plain) fa cdv A outer s H E).xe := passes_of rfl
  exact (psdsCons (psdIf (pbTruth (pdIsLT (pdVar (pv 0)) bl.b_isinstance (pa_cons (pe_bltn (v := .ty "list") rfl bl.b_list rfl rfl) (pa_cons (pe_bltn (v := .ty "tuple") rfl bl.b_tuple rfl rfl) pa_nil)) (fun _ _ _ h => h)))
  (psdsOne (psdRet (pdEq hr.units (pdB1 crLen bl.b_len rfl (pdLc (own := [("_law_part", 1)]) rfl sc.nd (pidS (pdVar (pv 0))) (blkOk_by (own := [("_law_part", 1)]) (by kernel_rfl)) tg_name (keeps_name (by decide)) (fun _ _ _ _ _ => (pg_name (i := 1) sc.nd rfl (by first | exact Or.inl rfl | exact Or.inr rfl))) (fun _ _ _ _ _ => (pbsOne (pbNot (pbTruth (pdCallH h__law_plain hr hg takes0 (pdsCons (pdVar (pv 1)) pdsNil)))))) (fun _ _ _ _ _ => (pdVar (pv 1))))) pdInt)))
  psdsNil)
  (psdsOne (psdRet (pdNot (pdIsa isaBool (pdVar (pv 0)) bl.b_isinstance bl.b_bool rfl)))))
theorem ok__law_plain_3 (Fn : Fun K "_law_plain" "_law_plain" s__law_plain fa fd) (bl : Bl K mg C_RowError C_OutOfRange C_TooLong)  (h__law_plain : Has P w K mg base 3 "_law_plain" ["_law_item"] PF.f__law_plain_v1_2) : FG P w K mg base 4 fa fd ["_law_item"] (spD K mg 1 PF.f__law_plain_v1_3) :=
  FG.body (k := 3) (N := N__law_plain) Fn sc__law_plain fun cdv A outer s H B E hr hg => by
  have sc := sc__law_plain
  have tk : Takes (cxOf (L2.CX P w) P w K mg base N__law_plain "_law_plain" (defScope s__law_plain) fa cdv A outer s H E) (fun c d _ H => E c d H) := takes_of rfl rfl rfl rfl
  have hp : PassesOwn (model P w) (cxOf (L2.CX P w) P w K mg base N__law_plain "_law_plain" (defScope s__law_plain) fa cdv A outer s H E).A (cxOf (L2.CX P w) P w K mg base N__law_plain "_law_plain" (defScope s__law_plain) fa cdv A outer s H E).env (cxOf (L2.CX P w) P w K mg base N__law_plain "_law_plain" (defScope s__law_plain) fa cdv A outer s H E).xe := passes_of rfl
  exact (psdsCons (psdIf (pbTruth (pdIsLT (pdVar (pv 0)) bl.b_isinstance (pa_cons (pe_bltn (v := .ty "list") rfl bl.b_list rfl rfl) (pa_cons (pe_bltn (v := .ty "tuple") rfl bl.b_tuple rfl rfl) pa_nil)) (fun _ _ _ h => h)))
  (psdsOne (psdRet (pdEq hr.units (pdB1 crLen bl.b_len rfl (pdLc (own := [("_law_part", 1)]) rfl sc.nd (pidS (pdVar (pv 0))) (blkOk_by (own := [("_law_part", 1)]) (by kernel_rfl)) tg_name (keeps_name (by decide)) (fun _ _ _ _ _ => (pg_name (i := 1) sc.nd rfl (by first | exact Or.inl rfl | exact Or.inr rfl))) (fun _ _ _ _ _ => (pbsOne (pbNot (pbTruth (pdCallH h__law_plain hr hg takes0 (pdsCons (pdVar (pv 1)) pdsNil)))))) (fun _ _ _ _ _ => (pdVar (pv 1))))) pdInt)))
  psdsNil)
  (psdsOne (psdRet (pdNot (pdIsa isaBool (pdVar (pv 0)) bl.b_isinstance bl.b_bool rfl)))))
theorem ok__law_plain_4 (Fn : Fun K "_law_plain" "_law_plain" s__law_plain fa fd) (bl : Bl K mg C_RowError C_OutOfRange C_TooLong)  (h__law_plain : Has P w K mg base 4 "_law_plain" ["_law_item"] PF.f__law_plain_v1_3) : FG P w K mg base 5 fa fd ["_law_item"] (spD K mg 1 PF.f__law_plain_v1_4) :=
  FG.body (k := 4) (N := N__law_plain) Fn sc__law_plain fun cdv A outer s H B E hr hg => by
  have sc := sc__law_plain
  have tk : Takes (cxOf (L2.CX P w) P w K mg base N__law_plain "_law_plain" (defScope s__law_plain) fa cdv A outer s H E) (fun c d _ H => E c d H) := takes_of rfl rfl rfl rfl
  have hp : PassesOwn (model P w) (cxOf (L2.CX P w) P w K mg base N__law_plain "_law_plain" (defScope s__law_plain) fa cdv A outer s H E).A (cxOf (L2.CX P w) P w K mg base N__law_plain "_law_plain" (defScope s__law_plain) fa cdv A outer s H E).env (cxOf (L2.CX P w) P w K mg base N__law_plain "_law_plain" (defScope s__law_plain) fa cdv A outer s H E).xe := passes_of rfl
  exact (psdsCons (psdIf (pbTruth (pdIsLT (pdVar (pv 0)) bl.b_isinstance (pa_cons (pe_bltn (v := .ty "list") rfl bl.b_list rfl rfl) (pa_cons (pe_bltn (v := .ty "tuple") rfl bl.b_tuple rfl rfl) pa_nil)) (fun _ _ _ h => h)))
  (psdsOne (psdRet (pdEq hr.units (pdB1 crLen bl.b_len rfl (pdLc (own := [("_law_part", 1)]) rfl sc.nd (pidS (pdVar (pv 0))) (blkOk_by (own := [("_law_part", 1)]) (by kernel_rfl)) tg_name (keeps_name (by decide)) (fun _ _ _ _ _ => (pg_name (i := 1) sc.nd rfl (by first | exact Or.inl rfl | exact Or.inr rfl))) (fun _ _ _ _ _ => (pbsOne (pbNot (pbTruth (pdCallH h__law_plain hr hg takes0 (pdsCons (pdVar (pv 1)) pdsNil)))))) (fun _ _ _ _ _ => (pdVar (pv 1))))) pdInt)))
  psdsNil)
  (psdsOne (psdRet (pdNot (pdIsa isaBool (pdVar (pv 0)) bl.b_isinstance bl.b_bool rfl)))))
theorem ok__law_plain_5 (Fn : Fun K "_law_plain" "_law_plain" s__law_plain fa fd) (bl : Bl K mg C_RowError C_OutOfRange C_TooLong)  (h__law_plain : Has P w K mg base 5 "_law_plain" ["_law_item"] PF.f__law_plain_v1_4) : FG P w K mg base 6 fa fd ["_law_item"] (spD K mg 1 PF.f__law_plain_v1_5) :=
  FG.body (k := 5) (N := N__law_plain) Fn sc__law_plain fun cdv A outer s H B E hr hg => by
  have sc := sc__law_plain
  have tk : Takes (cxOf (L2.CX P w) P w K mg base N__law_plain "_law_plain" (defScope s__law_plain) fa cdv A outer s H E) (fun c d _ H => E c d H) := takes_of rfl rfl rfl rfl
  have hp : PassesOwn (model P w) (cxOf (L2.CX P w) P w K mg base N__law_plain "_law_plain" (defScope s__law_plain) fa cdv A outer s H E).A (cxOf (L2.CX P w) P w K mg base N__law_plain "_law_plain" (defScope s__law_plain) fa cdv A outer s H E).env (cxOf (L2.CX P w) P w K mg base N__law_plain "_law_plain" (defScope s__law_plain) fa cdv A outer s H E).xe := passes_of rfl
  exact (psdsCons (psdIf (pbTruth (pdIsLT (pdVar (pv 0)) bl.b_isinstance (pa_cons (pe_bltn (v := .ty "list") rfl bl.b_list rfl rfl) (pa_cons (pe_bltn (v := .ty "tuple") rfl bl.b_tuple rfl rfl) pa_nil)) (fun _ _ _ h => h)))
  (psdsOne (psdRet (pdEq hr.units (pdB1 crLen bl.b_len rfl (pdLc (own := [("_law_part", 1)]) rfl sc.nd (pidS (pdVar (pv 0))) (blkOk_by (own := [("_law_part", 1)]) (by kernel_rfl)) tg_name (keeps_name (by decide)) (fun _ _ _ _ _ => (pg_name (i := 1) sc.nd rfl (by first | exact Or.inl rfl | exact Or.inr rfl))) (fun _ _ _ _ _ => (pbsOne (pbNot (pbTruth (pdCallH h__law_plain hr hg takes0 (pdsCons (pdVar (pv 1)) pdsNil)))))) (fun _ _ _ _ _ => (pdVar (pv 1))))) pdInt)))
  psdsNil)
  (psdsOne (psdRet (pdNot (pdIsa isaBool (pdVar (pv 0)) bl.b_isinstance bl.b_bool rfl)))))
theorem ok__law_plain_6 (Fn : Fun K "_law_plain" "_law_plain" s__law_plain fa fd) (bl : Bl K mg C_RowError C_OutOfRange C_TooLong)  (h__law_plain : Has P w K mg base 6 "_law_plain" ["_law_item"] PF.f__law_plain_v1_5) : FG P w K mg base 7 fa fd ["_law_item"] (spD K mg 1 PF.f__law_plain_v1_6) :=
  FG.body (k := 6) (N := N__law_plain) Fn sc__law_plain fun cdv A outer s H B E hr hg => by
  have sc := sc__law_plain
  have tk : Takes (cxOf (L2.CX P w) P w K mg base N__law_plain "_law_plain" (defScope s__law_plain) fa cdv A outer s H E) (fun c d _ H => E c d H) := takes_of rfl rfl rfl rfl
  have hp : PassesOwn (model P w) (cxOf (L2.CX P w) P w K mg base N__law_plain "_law_plain" (defScope s__law_plain) fa cdv A outer s H E).A (cxOf (L2.CX P w) P w K mg base N__law_plain "_law_plain" (defScope s__law_plain) fa cdv A outer s H E).env (cxOf (L2.CX P w) P w K mg base N__law_plain "_law_plain" (defScope s__law_plain) fa cdv A outer s H E).xe := passes_of rfl
  exact (psdsCons (psdIf (pbTruth (pdIsLT (pdVar (pv 0)) bl.b_isinstance (pa_cons (pe_bltn (v := .ty "list") rfl bl.b_list rfl rfl) (pa_cons (pe_bltn (v := .ty "tuple") rfl bl.b_tuple rfl rfl) pa_nil)) (fun _ _ _ h => h)))
  (psdsOne (psdRet (pdEq hr.units (pdB1 crLen bl.b_len rfl (pdLc (own := [("_law_part", 1)]) rfl sc.nd (pidS (pdVar (pv 0))) (blkOk_by (own := [("_law_part", 1)]) (by kernel_rfl)) tg_name (keeps_name (by decide)) (fun _ _ _ _ _ => (pg_name (i := 1) sc.nd rfl (by first | exact Or.inl rfl | exact Or.inr rfl))) (fun _ _ _ _ _ => (pbsOne (pbNot (pbTruth (pdCallH h__law_plain hr hg takes0 (pdsCons (pdVar (pv 1)) pdsNil)))))) (fun _ _ _ _ _ => (pdVar (pv 1))))) pdInt)))
  psdsNil)
  (psdsOne (psdRet (pdNot (pdIsa isaBool (pdVar (pv 0)) bl.b_isinstance bl.b_bool rfl)))))
theorem ok__law_refused (Fn : Fun K "_law_refused" "_law_refused" s__law_refused fa fd) (bl : Bl K mg C_RowError C_OutOfRange C_TooLong) (h_patterns : HasK P w K mg base 6 "patterns" ["one", "length", "most"] ["most"] 2 PF.f_patterns) : FG P w K mg base 7 fa fd ["_law_one", "_law_length", "_law_most"] (spD K mg 3 PF.f__law_refused_v11) :=
  FG.body (k := 6) (N := N__law_refused) Fn sc__law_refused fun cdv A outer s H B E hr hg => by
  have sc := sc__law_refused
  have tk : Takes (cxOf (L2.CX P w) P w K mg base N__law_refused "_law_refused" (defScope s__law_refused) fa cdv A outer s H E) (fun c d _ H => E c d H) := takes_of rfl rfl rfl rfl
  have hp : PassesOwn (model P w) (cxOf (L2.CX P w) P w K mg base N__law_refused "_law_refused" (defScope s__law_refused) fa cdv A outer s H E).A (cxOf (L2.CX P w) P w K mg base N__law_refused "_law_refused" (defScope s__law_refused) fa cdv A outer s H E).env (cxOf (L2.CX P w) P w K mg base N__law_refused "_law_refused" (defScope s__law_refused) fa cdv A outer s H E).xe := passes_of rfl
  exact (psdsCons (psdTry2 rfl rfl ⟨rfl, by decide, .inl bl.g_OutOfRange⟩ ⟨rfl, by decide, .inl bl.g_TooLong⟩ tk bl.x_OutOfRange bl.x_TooLong
  (fun W pn xe tk hp => (psdsOne (psdExpr (pdCallHK h_patterns hr hg tk (pdsCons (pdVar (pv 0)) (pdsCons (pdVar (pv 1)) pdsNil)) (pdVar (pv 2)))))) (fun a oe pn cls hz hfl => (psdsOne (psdRet pdStr))) (fun a oe pn cls hz hfl => (psdsOne (psdRet pdStr))))
  (psdsOne (psdRet pdStr)))
theorem ok__law_many_words (Fn : Fun K "_law_many_words" "_law_many_words" s__law_many_words fa fd) (bl : Bl K mg C_RowError C_OutOfRange C_TooLong) (h_patterns : HasK P w K mg base 6 "patterns" ["one", "length", "most"] ["most"] 2 PF.f_patterns) : FG P w K mg base 7 fa fd ["_law_size", "_law_draw"] (spD K mg 2 PF.f__law_many_words) :=
  FG.body (k := 6) (N := N__law_many_words) Fn sc__law_many_words fun cdv A outer s H B E hr hg => by
  have sc := sc__law_many_words
  have tk : Takes (cxOf (L2.CX P w) P w K mg base N__law_many_words "_law_many_words" (defScope s__law_many_words) fa cdv A outer s H E) (fun c d _ H => E c d H) := takes_of rfl rfl rfl rfl
  have hp : PassesOwn (model P w) (cxOf (L2.CX P w) P w K mg base N__law_many_words "_law_many_words" (defScope s__law_many_words) fa cdv A outer s H E).A (cxOf (L2.CX P w) P w K mg base N__law_many_words "_law_many_words" (defScope s__law_many_words) fa cdv A outer s H E).env (cxOf (L2.CX P w) P w K mg base N__law_many_words "_law_many_words" (defScope s__law_many_words) fa cdv A outer s H E).xe := passes_of rfl
  exact (psdsCons (psdSetZ sc.nd (i := 2) rfl (Or.inl rfl) (pdSub (pdIx (pdList (pdsCons pdInt (pdsCons pdInt (pdsCons pdInt pdsNil)))) (pdSub (pdVar (pv 0)) pdInt)) (pdMod (pdVar (pv 1)) pdInt)))
  (psdsCons (psdSetZ sc.nd (i := 3) rfl (Or.inl rfl) (pdTup (pdsCons (pdVar (pv 0)) (pdsCons (pdSub pdInt (pdMod (pdDiv (pdVar (pv 1)) pdInt) pdInt)) (pdsCons pdInt (pdsCons (pdLc (own := [("_law_k", 4)]) rfl sc.nd (pidR1 bl.b_range (pdsCons (pdVar (pv 0)) pdsNil)) (blkOk_by (own := [("_law_k", 4)]) (by kernel_rfl)) tg_name (keeps_name (by decide)) (fun _ _ _ _ _ => (pg_name (i := 4) sc.nd rfl (by first | exact Or.inl rfl | exact Or.inr rfl))) (fun _ _ _ _ _ => pbsNil) (fun _ _ _ _ _ => (pdVar (pv 4)))) pdsNil))))))
  (psdsCons (psdIf (pbNe hr.units (pdCallHK h_patterns hr hg tk (pdsCons (pdVar (pv 3)) (pdsCons (pdVar (pv 2)) pdsNil)) pdInt) (pdList pdsNil))
  (psdsOne (psdRet pdBl))
  psdsNil)
  (psdsCons (psdSetZ sc.nd (i := 5) rfl (Or.inl rfl) (pdCallHK h_patterns hr hg tk (pdsCons (pdVar (pv 3)) (pdsCons (pdVar (pv 2)) pdsNil)) pdInt))
  (psdsCons (psdSetZ sc.nd (i := 6) rfl (Or.inl rfl) pdInt)
  (psdsCons (psdForD (D := [4, 7, 8, 9]) hp rfl (pidR2 bl.b_range (pdsCons pdInt (pdsCons (pdAdd (pdVar (pv 2)) pdInt) pdsNil))) (pgdName sc.nd (i := 7) rfl (Or.inl rfl))
  (psdsCons (psdSetZ sc.nd (i := 8) rfl (Or.inl rfl) (pdIf (pbEq hr.units (pdVar (pv 7)) pdInt) (pdSub (pdVar (pv 0)) pdInt) (pdMul (pdSub (pdVar (pv 0)) pdInt) (pdSub (pdVar (pv 0)) pdInt))))
  (psdsCons (psdSetZ sc.nd (i := 9) rfl (Or.inl rfl) pdInt)
  (psdsCons (psdForD (D := [4]) hp rfl (pidR1 bl.b_range (pdsCons (pdSub (pdVar (pv 7)) pdInt) pdsNil)) (pgdName sc.nd (i := 4) rfl (Or.inl rfl))
  (psdsOne (psdSetZ sc.nd (i := 9) rfl (Or.inl rfl) (pdMul (pdVar (pv 9)) (pdVar (pv 0))))))
  (psdsOne (psdSetZ sc.nd (i := 6) rfl (Or.inl rfl) (pdAdd (pdVar (pv 6)) (pdMul (pdVar (pv 8)) (pdVar (pv 9))))))))))
  (psdsOne (psdRet (pdAndV (pdEq hr.units (pdB1 crLen bl.b_len rfl (pdVar (pv 5))) (pdVar (pv 6))) (pdOne (pdEq hr.units (pdB1 crLen bl.b_len rfl (pdLc (own := [("_law_item", 10)]) rfl sc.nd (pidL (pdVar (pv 5))) (blkOk_by (own := [("_law_item", 10)]) (by kernel_rfl)) tg_name (keeps_name (by decide)) (fun _ _ _ _ _ => (pg_name (i := 10) sc.nd rfl (by first | exact Or.inl rfl | exact Or.inr rfl))) (fun _ _ _ _ _ => (pbsOne (pbNe hr.units (pdSl (pdVar (pv 10)) (ppS pdInt) ppN) (pdTup (pdsCons pdInt (pdsCons (pdMod (pdDiv (pdVar (pv 1)) pdInt) pdInt) pdsNil)))))) (fun _ _ _ _ _ => (pdVar (pv 10))))) pdInt)))))))))))
theorem ok_law (Fn : Fun K "law" "law" s_law fa fd) (bl : Bl K mg C_RowError C_OutOfRange C_TooLong) (h__law_map : Has P w K mg base 4 "_law_map" ["_law_first", "_law_second"] PF.f__law_map_v1) (h__law_cell : Has P w K mg base 1 "_law_cell" ["_law_script", "_law_k"] PF.f__law_cell_v1) (h__law_digits : Has P w K mg base 1 "_law_digits" ["_law_cell_here", "_law_base", "_law_most"] PF.f__law_digits_v1) (h__law_words : Has P w K mg base 1 "_law_words" ["_law_size", "_law_length"] PF.f__law_words) (h__law_return : Has P w K mg base 4 "_law_return" ["_law_one", "_law_cells", "_law_most"] PF.f__law_return) (h_patterns : HasK P w K mg base 6 "patterns" ["one", "length", "most"] ["most"] 2 PF.f_patterns) (h__law_plain : Has P w K mg base 7 "_law_plain" ["_law_item"] PF.f__law_plain_v1) (h__law_refused : Has P w K mg base 7 "_law_refused" ["_law_one", "_law_length", "_law_most"] PF.f__law_refused_v11) (h__law_many_words : Has P w K mg base 7 "_law_many_words" ["_law_size", "_law_draw"] PF.f__law_many_words) : FG P w K mg base 8 fa fd ["_law_script"] (spD K mg 1 PF.f_law_k51) :=
  FG.body (k := 7) (N := N_law) Fn sc_law fun cdv A outer s H B E hr hg => by
  have sc := sc_law
  have tk : Takes (cxOf (L2.CX P w) P w K mg base N_law "law" (defScope s_law) fa cdv A outer s H E) (fun c d _ H => E c d H) := takes_of rfl rfl rfl rfl
  have hp : PassesOwn (model P w) (cxOf (L2.CX P w) P w K mg base N_law "law" (defScope s_law) fa cdv A outer s H E).A (cxOf (L2.CX P w) P w K mg base N_law "law" (defScope s_law) fa cdv A outer s H E).env (cxOf (L2.CX P w) P w K mg base N_law "law" (defScope s_law) fa cdv A outer s H E).xe := passes_of rfl
  exact (psdsCons (psdSetZ sc.nd (i := 1) rfl (Or.inl rfl) (pdCallH h__law_map hr hg tk (pdsCons (pdCallH h__law_cell hr hg tk (pdsCons (pdVar (pv 0)) (pdsCons pdInt pdsNil))) (pdsCons (pdCallH h__law_cell hr hg tk (pdsCons (pdVar (pv 0)) (pdsCons pdInt pdsNil))) pdsNil))))
  (psdsCons (psdSetZ sc.nd (i := 2) rfl (Or.inl rfl) (pdB1 (d1Repr hr.units hg).call bl.b_repr rfl (pdVar (pv 1))))
  (psdsCons (psdSetZ sc.nd (i := 3) rfl (Or.inl rfl) (pdCallH h__law_digits hr hg tk (pdsCons (pdCallH h__law_cell hr hg tk (pdsCons (pdVar (pv 0)) (pdsCons pdInt pdsNil))) (pdsCons pdInt (pdsCons pdInt pdsNil)))))
  (psdsCons (psdSetZ sc.nd (i := 4) rfl (Or.inl rfl) (pdMod (pdIx (pdVar (pv 3)) pdInt) pdInt))
  (psdsCons (psdSetZ sc.nd (i := 5) rfl (Or.inl rfl) (pdMod (pdIx (pdVar (pv 3)) pdInt) (pdIx (pdList (pdsCons pdInt (pdsCons pdInt (pdsCons pdInt pdsNil)))) (pdSub (pdIx (pdVar (pv 1)) pdInt) pdInt))))
  (psdsCons (psdIf ((pbAnd (pbEq hr.units (pdIx (pdVar (pv 1)) pdInt) pdInt) (pbAnd (pbLt hr.units (pdIx (pdVar (pv 1)) pdInt) pdInt) (pbAnd1 (pbEq hr.units (pdMod (pdDiv (pdIx (pdVar (pv 3)) pdInt) pdInt) pdInt) pdInt))))).pb
  (psdsCons (psdSetZ sc.nd (i := 4) rfl (Or.inl rfl) (pdAdd pdInt (pdMod (pdDiv (pdIx (pdVar (pv 3)) pdInt) pdInt) pdInt)))
  (psdsOne (psdSetZ sc.nd (i := 5) rfl (Or.inl rfl) (pdAdd pdInt (pdMod (pdDiv (pdIx (pdVar (pv 3)) pdInt) pdInt) pdInt)))))
  psdsNil)
  (psdsCons (psdSet sc.nd (i := 6) rfl (Or.inl rfl) (pdList pdsNil))
  (psdsCons (psdForD (D := [7, 8, 9]) hp rfl (pidR2 bl.b_range (pdsCons pdInt (pdsCons (pdAdd (pdVar (pv 5)) pdInt) pdsNil))) (pgdName sc.nd (i := 7) rfl (Or.inl rfl))
  (psdsOne (psdForD (D := [8, 9]) hp rfl (pidL (pdCallH h__law_words hr hg tk (pdsCons (pdIx (pdVar (pv 1)) pdInt) (pdsCons (pdVar (pv 7)) pdsNil)))) (pgdName sc.nd (i := 8) rfl (Or.inl rfl))
  (psdsOne (psdIf ((pbAnd (pbNe hr.units (pdIx (pdVar (pv 8)) pdInt) pdInt) (pbAnd1 (pbNe hr.units (pdIx (pdVar (pv 8)) (pdSub (pdVar (pv 7)) pdInt)) pdInt)))).pb
  (psdsCons (psdSetZ sc.nd (i := 9) rfl (Or.inl rfl) (pdCallH h__law_return hr hg tk (pdsCons (pdVar (pv 1)) (pdsCons (pdVar (pv 8)) (pdsCons (pdVar (pv 4)) pdsNil)))))
  (psdsOne (psdIf (pbIsNot (pdVar (pv 9)) pdNon)
  (psdsOne (psdApp (pv 6) (pdTup (pdsCons (pdVar (pv 8)) (pdsCons (pdIx (pdVar (pv 9)) pdInt) (pdsCons (pdIx (pdVar (pv 9)) pdInt) pdsNil))))))
  psdsNil)))
  psdsNil)))))
  (psdsCons (psdSet sc.nd (i := 10) rfl (Or.inl rfl) (pdCallHK h_patterns hr hg tk (pdsCons (pdVar (pv 1)) (pdsCons (pdVar (pv 5)) pdsNil)) (pdVar (pv 4))))
  (psdsCons (psdIf ((pbOr (pbNot (pbTruth (pdIsa isaList (pdVar (pv 10)) bl.b_isinstance bl.b_list rfl))) (pbOr (pbNe hr.units (pdVar (pv 10)) (pdVar (pv 6))) (pbOr (pbNot (pbTruth (pdCallH h__law_plain hr hg tk (pdsCons (pdVar (pv 10)) pdsNil)))) (pbOr1 (pbNe hr.units (pdB1 (d1Repr hr.units hg).call bl.b_repr rfl (pdVar (pv 1))) (pdVar (pv 2)))))))).pb
  (psdsOne (psdRet pdBl))
  psdsNil)
  (psdsCons (psdForApp (k := 11) (i := 10) (M := 100) hp rfl (by decide) (pv 10) sc.nd rfl (Or.inl rfl) (pv 11) (pbNot (pbTruth (pdIsa isaTuple (pdVar (pv 11)) bl.b_isinstance bl.b_tuple rfl))) (fun ρ ds h => apt_ok h) (psdsOne (psdRet pdBl)))
  (psdsCons (psdIf (pbNe hr.units (pdCallHK h_patterns hr hg tk (pdsCons (pdVar (pv 1)) (pdsCons (pdVar (pv 5)) pdsNil)) (pdVar (pv 4))) (pdVar (pv 6)))
  (psdsOne (psdRet pdBl))
  psdsNil)
  (psdsCons (psdIf ((pbOr (pbNe hr.units (pdCallH h__law_refused hr hg tk (pdsCons (pdVar (pv 1)) (pdsCons (pdSub (pdNeg pdInt) (pdMod (pdIx (pdVar (pv 3)) pdInt) pdInt)) (pdsCons (pdVar (pv 4)) pdsNil)))) pdStr) (pbOr1 (pbNe hr.units (pdCallH h__law_refused hr hg tk (pdsCons (pdVar (pv 1)) (pdsCons (pdVar (pv 5)) (pdsCons (pdSub (pdNeg pdInt) (pdMod (pdIx (pdVar (pv 3)) pdInt) pdInt)) pdsNil)))) pdStr)))).pb
  (psdsOne (psdRet pdBl))
  psdsNil)
  (psdsCons (psdIf ((pbOr (pbNe hr.units (pdCallH h__law_refused hr hg tk (pdsCons (pdVar (pv 1)) (pdsCons (pdPow pdInt pdInt) (pdsCons pdInt pdsNil)))) pdStr) (pbOr (pbNe hr.units (pdCallH h__law_refused hr hg tk (pdsCons (pdVar (pv 1)) (pdsCons pdInt (pdsCons (pdNeg pdInt) pdsNil)))) pdStr) (pbOr1 ((pbAnd (pbEq hr.units (pdMod (pdIx (pdVar (pv 3)) pdInt) pdInt) pdInt) (pbAnd1 (pbNot (pbTruth (pdCallH h__law_many_words hr hg tk (pdsCons (pdIx (pdVar (pv 1)) pdInt) (pdsCons (pdDiv (pdIx (pdVar (pv 3)) pdInt) pdInt) pdsNil)))))))).pb)))).pb
  (psdsOne (psdRet pdBl))
  psdsNil)
  (psdsOne (psdRet (pdEq hr.units (pdCallH h__law_refused hr hg tk (pdsCons (pdVar (pv 1)) (pdsCons (pdAdd (pdIx (pdList (pdsCons pdInt (pdsCons pdInt (pdsCons pdInt pdsNil)))) (pdSub (pdIx (pdVar (pv 1)) pdInt) pdInt)) (pdMod (pdIx (pdVar (pv 3)) pdInt) pdInt)) (pdsCons (pdVar (pv 4)) pdsNil)))) pdStr)))))))))))))))))
end
theorem all_mk {l : PySem.W.OpenLaw} {w : World} {K : PySem.W.Frag} {h : Heap} {mg : Str → Option Value} {fa : Addr} (X : K.In h) (G : h.Ns mainGlobals mg) (hfa : mg "law" = some (.ref fa))
    {oc0 kV0 dc0 pm0 cd0 ct0 : Value} {od0 an0 : Option Addr} {sl0 : Array (Option Value)} {f0 : Addr}
    {oc1 kV1 dc1 pm1 cd1 ct1 : Value} {od1 an1 : Option Addr} {sl1 : Array (Option Value)} {f1 : Addr}
    {oc2 kV2 dc2 pm2 cd2 ct2 : Value} {od2 an2 : Option Addr} {sl2 : Array (Option Value)} {f2 : Addr}
    {oc3 kV3 dc3 pm3 cd3 ct3 : Value} {od3 an3 : Option Addr} {sl3 : Array (Option Value)} {f3 : Addr}
    {oc4 kV4 dc4 pm4 cd4 ct4 : Value} {od4 an4 : Option Addr} {sl4 : Array (Option Value)} {f4 : Addr}
    {oc5 kV5 dc5 pm5 cd5 ct5 : Value} {od5 an5 : Option Addr} {sl5 : Array (Option Value)} {f5 : Addr}
    {oc6 kV6 dc6 pm6 cd6 ct6 : Value} {od6 an6 : Option Addr} {sl6 : Array (Option Value)} {f6 : Addr}
    {oc7 kV7 dc7 pm7 cd7 ct7 : Value} {od7 an7 : Option Addr} {sl7 : Array (Option Value)} {f7 : Addr}
    {oc8 kV8 dc8 pm8 cd8 ct8 : Value} {od8 an8 : Option Addr} {sl8 : Array (Option Value)} {f8 : Addr}
    {oc9 kV9 dc9 pm9 cd9 ct9 : Value} {od9 an9 : Option Addr} {sl9 : Array (Option Value)} {f9 : Addr}
    {oc10 kV10 dc10 pm10 cd10 ct10 : Value} {od10 an10 : Option Addr} {sl10 : Array (Option Value)} {f10 : Addr}
    {oc11 kV11 dc11 pm11 cd11 ct11 : Value} {od11 an11 : Option Addr} {sl11 : Array (Option Value)} {f11 : Addr}
    {oc12 kV12 dc12 pm12 cd12 ct12 : Value} {od12 an12 : Option Addr} {sl12 : Array (Option Value)} {f12 : Addr}
    {oc13 kV13 dc13 pm13 cd13 ct13 : Value} {od13 an13 : Option Addr} {sl13 : Array (Option Value)} {f13 : Addr}
    {oc14 kV14 dc14 pm14 cd14 ct14 : Value} {od14 an14 : Option Addr} {sl14 : Array (Option Value)} {f14 : Addr}
    {oc15 kV15 dc15 pm15 cd15 ct15 : Value} {od15 an15 : Option Addr} {sl15 : Array (Option Value)} {f15 : Addr}
    {oc16 kV16 dc16 pm16 cd16 ct16 : Value} {od16 an16 : Option Addr} {sl16 : Array (Option Value)} {f16 : Addr}
    {oc17 kV17 dc17 pm17 cd17 ct17 : Value} {od17 an17 : Option Addr} {sl17 : Array (Option Value)} {f17 : Addr}
    {oc18 kV18 dc18 pm18 cd18 ct18 : Value} {od18 an18 : Option Addr} {sl18 : Array (Option Value)} {f18 : Addr}
    {oc19 kV19 dc19 pm19 cd19 ct19 : Value} {od19 an19 : Option Addr} {sl19 : Array (Option Value)} {f19 : Addr}
    {oc20 kV20 dc20 pm20 cd20 ct20 : Value} {od20 an20 : Option Addr} {sl20 : Array (Option Value)} {f20 : Addr}
    {oc21 kV21 dc21 pm21 cd21 ct21 : Value} {od21 an21 : Option Addr} {sl21 : Array (Option Value)} {f21 : Addr}
    {oc22 kV22 dc22 pm22 cd22 ct22 : Value} {od22 an22 : Option Addr} {sl22 : Array (Option Value)} {f22 : Addr}
    {oc23 kV23 dc23 pm23 cd23 ct23 : Value} {od23 an23 : Option Addr} {sl23 : Array (Option Value)} {f23 : Addr}
    {oc24 kV24 dc24 pm24 cd24 ct24 : Value} {od24 an24 : Option Addr} {sl24 : Array (Option Value)} {f24 : Addr}
    {t_MOST_WORDS : Tok}
    {t_MOST_CELLS : Tok}
    {C_RowError C_OutOfRange C_TooLong : Addr}
    (a0 : PySem.W.nsIn K mainGlobals "_law_digits" = some (some (.ref f0))) (l0 : K.lookup f0 = some ⟨oc0, od0, .func (PySem.W.fnOf "_law_digits" "_law_digits" (defArgs s__law_digits) (defBody s__law_digits) (defScope s__law_digits) .none kV0 dc0 pm0 an0 cd0 ct0), sl0⟩) (c0 : PySem.W.codeIn K cd0 "_law_digits" = true) (k0 : PySem.W.keepIn K (.ref f0) = true)
    (a1 : PySem.W.nsIn K mainGlobals "_law_words" = some (some (.ref f1))) (l1 : K.lookup f1 = some ⟨oc1, od1, .func (PySem.W.fnOf "_law_words" "_law_words" (defArgs s__law_words) (defBody s__law_words) (defScope s__law_words) .none kV1 dc1 pm1 an1 cd1 ct1), sl1⟩) (c1 : PySem.W.codeIn K cd1 "_law_words" = true) (k1 : PySem.W.keepIn K (.ref f1) = true)
    (a2 : PySem.W.nsIn K mainGlobals "_law_order" = some (some (.ref f2))) (l2 : K.lookup f2 = some ⟨oc2, od2, .func (PySem.W.fnOf "_law_order" "_law_order" (defArgs s__law_order) (defBody s__law_order) (defScope s__law_order) .none kV2 dc2 pm2 an2 cd2 ct2), sl2⟩) (c2 : PySem.W.codeIn K cd2 "_law_order" = true) (k2 : PySem.W.keepIn K (.ref f2) = true)
    (a3 : PySem.W.nsIn K mainGlobals "_law_partial" = some (some (.ref f3))) (l3 : K.lookup f3 = some ⟨oc3, od3, .func (PySem.W.fnOf "_law_partial" "_law_partial" (defArgs s__law_partial) (defBody s__law_partial) (defScope s__law_partial) .none kV3 dc3 pm3 an3 cd3 ct3), sl3⟩) (c3 : PySem.W.codeIn K cd3 "_law_partial" = true) (k3 : PySem.W.keepIn K (.ref f3) = true)
    (a4 : PySem.W.nsIn K mainGlobals "_law_new" = some (some (.ref f4))) (l4 : K.lookup f4 = some ⟨oc4, od4, .func (PySem.W.fnOf "_law_new" "_law_new" (defArgs s__law_new) (defBody s__law_new) (defScope s__law_new) .none kV4 dc4 pm4 an4 cd4 ct4), sl4⟩) (c4 : PySem.W.codeIn K cd4 "_law_new" = true) (k4 : PySem.W.keepIn K (.ref f4) = true)
    (a5 : PySem.W.nsIn K mainGlobals "_law_word" = some (some (.ref f5))) (l5 : K.lookup f5 = some ⟨oc5, od5, .func (PySem.W.fnOf "_law_word" "_law_word" (defArgs s__law_word) (defBody s__law_word) (defScope s__law_word) .none kV5 dc5 pm5 an5 cd5 ct5), sl5⟩) (c5 : PySem.W.codeIn K cd5 "_law_word" = true) (k5 : PySem.W.keepIn K (.ref f5) = true)
    (a6 : PySem.W.nsIn K mainGlobals "_law_after" = some (some (.ref f6))) (l6 : K.lookup f6 = some ⟨oc6, od6, .func (PySem.W.fnOf "_law_after" "_law_after" (defArgs s__law_after) (defBody s__law_after) (defScope s__law_after) .none kV6 dc6 pm6 an6 cd6 ct6), sl6⟩) (c6 : PySem.W.codeIn K cd6 "_law_after" = true) (k6 : PySem.W.keepIn K (.ref f6) = true)
    (a7 : PySem.W.nsIn K mainGlobals "_law_map" = some (some (.ref f7))) (l7 : K.lookup f7 = some ⟨oc7, od7, .func (PySem.W.fnOf "_law_map" "_law_map" (defArgs s__law_map) (defBody s__law_map) (defScope s__law_map) .none kV7 dc7 pm7 an7 cd7 ct7), sl7⟩) (c7 : PySem.W.codeIn K cd7 "_law_map" = true) (k7 : PySem.W.keepIn K (.ref f7) = true)
    (a8 : PySem.W.nsIn K mainGlobals "_law_cell" = some (some (.ref f8))) (l8 : K.lookup f8 = some ⟨oc8, od8, .func (PySem.W.fnOf "_law_cell" "_law_cell" (defArgs s__law_cell) (defBody s__law_cell) (defScope s__law_cell) .none kV8 dc8 pm8 an8 cd8 ct8), sl8⟩) (c8 : PySem.W.codeIn K cd8 "_law_cell" = true) (k8 : PySem.W.keepIn K (.ref f8) = true)
    (a9 : PySem.W.nsIn K mainGlobals "_law_simple" = some (some (.ref f9))) (l9 : K.lookup f9 = some ⟨oc9, od9, .func (PySem.W.fnOf "_law_simple" "_law_simple" (defArgs s__law_simple) (defBody s__law_simple) (defScope s__law_simple) .none kV9 dc9 pm9 an9 cd9 ct9), sl9⟩) (c9 : PySem.W.codeIn K cd9 "_law_simple" = true) (k9 : PySem.W.keepIn K (.ref f9) = true)
    (a10 : PySem.W.nsIn K mainGlobals "_law_image" = some (some (.ref f10))) (l10 : K.lookup f10 = some ⟨oc10, od10, .func (PySem.W.fnOf "_law_image" "_law_image" (defArgs s__law_image) (defBody s__law_image) (defScope s__law_image) .none kV10 dc10 pm10 an10 cd10 ct10), sl10⟩) (c10 : PySem.W.codeIn K cd10 "_law_image" = true) (k10 : PySem.W.keepIn K (.ref f10) = true)
    (a11 : PySem.W.nsIn K mainGlobals "_law_return" = some (some (.ref f11))) (l11 : K.lookup f11 = some ⟨oc11, od11, .func (PySem.W.fnOf "_law_return" "_law_return" (defArgs s__law_return) (defBody s__law_return) (defScope s__law_return) .none kV11 dc11 pm11 an11 cd11 ct11), sl11⟩) (c11 : PySem.W.codeIn K cd11 "_law_return" = true) (k11 : PySem.W.keepIn K (.ref f11) = true)
    (a12 : PySem.W.nsIn K mainGlobals "count_words" = some (some (.ref f12))) (l12 : K.lookup f12 = some ⟨oc12, od12, .func (PySem.W.fnOf "count_words" "count_words" (defArgs s_count_words) (defBody s_count_words) (defScope s_count_words) .none kV12 dc12 pm12 an12 cd12 ct12), sl12⟩) (c12 : PySem.W.codeIn K cd12 "count_words" = true) (k12 : PySem.W.keepIn K (.ref f12) = true)
    (a13 : PySem.W.nsIn K mainGlobals "digits_of" = some (some (.ref f13))) (l13 : K.lookup f13 = some ⟨oc13, od13, .func (PySem.W.fnOf "digits_of" "digits_of" (defArgs s_digits_of) (defBody s_digits_of) (defScope s_digits_of) .none kV13 dc13 pm13 an13 cd13 ct13), sl13⟩) (c13 : PySem.W.codeIn K cd13 "digits_of" = true) (k13 : PySem.W.keepIn K (.ref f13) = true)
    (a14 : PySem.W.nsIn K mainGlobals "spread_simple" = some (some (.ref f14))) (l14 : K.lookup f14 = some ⟨oc14, od14, .func (PySem.W.fnOf "spread_simple" "spread_simple" (defArgs s_spread_simple) (defBody s_spread_simple) (defScope s_spread_simple) .none kV14 dc14 pm14 an14 cd14 ct14), sl14⟩) (c14 : PySem.W.codeIn K cd14 "spread_simple" = true) (k14 : PySem.W.keepIn K (.ref f14) = true)
    (a15 : PySem.W.nsIn K mainGlobals "number_of" = some (some (.ref f15))) (l15 : K.lookup f15 = some ⟨oc15, od15, .func (PySem.W.fnOf "number_of" "number_of" (defArgs s_number_of) (defBody s_number_of) (defScope s_number_of) .none kV15 dc15 pm15 an15 cd15 ct15), sl15⟩) (c15 : PySem.W.codeIn K cd15 "number_of" = true) (k15 : PySem.W.keepIn K (.ref f15) = true)
    (a16 : PySem.W.nsIn K mainGlobals "new_cell" = some (some (.ref f16))) (l16 : K.lookup f16 = some ⟨oc16, od16, .func (PySem.W.fnOf "new_cell" "new_cell" (defArgs s_new_cell) (defBody s_new_cell) (defScope s_new_cell) .none kV16 dc16 pm16 an16 cd16 ct16), sl16⟩) (c16 : PySem.W.codeIn K cd16 "new_cell" = true) (k16 : PySem.W.keepIn K (.ref f16) = true)
    (a17 : PySem.W.nsIn K mainGlobals "apply_word" = some (some (.ref f17))) (l17 : K.lookup f17 = some ⟨oc17, od17, .func (PySem.W.fnOf "apply_word" "apply_word" (defArgs s_apply_word) (defBody s_apply_word) (defScope s_apply_word) .none kV17 dc17 pm17 an17 cd17 ct17), sl17⟩) (c17 : PySem.W.codeIn K cd17 "apply_word" = true) (k17 : PySem.W.keepIn K (.ref f17) = true)
    (a18 : PySem.W.nsIn K mainGlobals "spread_image" = some (some (.ref f18))) (l18 : K.lookup f18 = some ⟨oc18, od18, .func (PySem.W.fnOf "spread_image" "spread_image" (defArgs s_spread_image) (defBody s_spread_image) (defScope s_spread_image) .none kV18 dc18 pm18 an18 cd18 ct18), sl18⟩) (c18 : PySem.W.codeIn K cd18 "spread_image" = true) (k18 : PySem.W.keepIn K (.ref f18) = true)
    (a19 : PySem.W.nsIn K mainGlobals "return_of" = some (some (.ref f19))) (l19 : K.lookup f19 = some ⟨oc19, od19, .func (PySem.W.fnOf "return_of" "return_of" (defArgs s_return_of) (defBody s_return_of) (defScope s_return_of) .none kV19 dc19 pm19 an19 cd19 ct19), sl19⟩) (c19 : PySem.W.codeIn K cd19 "return_of" = true) (k19 : PySem.W.keepIn K (.ref f19) = true)
    (a20 : PySem.W.nsIn K mainGlobals "patterns" = some (some (.ref f20))) (l20 : K.lookup f20 = some ⟨oc20, od20, .func (PySem.W.fnOf "patterns" "patterns" (defArgs s_patterns) (defBody s_patterns) (defScope s_patterns) .none kV20 dc20 pm20 an20 cd20 ct20), sl20⟩) (c20 : PySem.W.codeIn K cd20 "patterns" = true) (k20 : PySem.W.keepIn K (.ref f20) = true)
    (a21 : PySem.W.nsIn K mainGlobals "_law_plain" = some (some (.ref f21))) (l21 : K.lookup f21 = some ⟨oc21, od21, .func (PySem.W.fnOf "_law_plain" "_law_plain" (defArgs s__law_plain) (defBody s__law_plain) (defScope s__law_plain) .none kV21 dc21 pm21 an21 cd21 ct21), sl21⟩) (c21 : PySem.W.codeIn K cd21 "_law_plain" = true) (k21 : PySem.W.keepIn K (.ref f21) = true)
    (a22 : PySem.W.nsIn K mainGlobals "_law_refused" = some (some (.ref f22))) (l22 : K.lookup f22 = some ⟨oc22, od22, .func (PySem.W.fnOf "_law_refused" "_law_refused" (defArgs s__law_refused) (defBody s__law_refused) (defScope s__law_refused) .none kV22 dc22 pm22 an22 cd22 ct22), sl22⟩) (c22 : PySem.W.codeIn K cd22 "_law_refused" = true) (k22 : PySem.W.keepIn K (.ref f22) = true)
    (a23 : PySem.W.nsIn K mainGlobals "_law_many_words" = some (some (.ref f23))) (l23 : K.lookup f23 = some ⟨oc23, od23, .func (PySem.W.fnOf "_law_many_words" "_law_many_words" (defArgs s__law_many_words) (defBody s__law_many_words) (defScope s__law_many_words) .none kV23 dc23 pm23 an23 cd23 ct23), sl23⟩) (c23 : PySem.W.codeIn K cd23 "_law_many_words" = true) (k23 : PySem.W.keepIn K (.ref f23) = true)
    (a24 : PySem.W.nsIn K mainGlobals "law" = some (some (.ref f24))) (l24 : K.lookup f24 = some ⟨oc24, od24, .func (PySem.W.fnOf "law" "law" (defArgs s_law) (defBody s_law) (defScope s_law) .none kV24 dc24 pm24 an24 cd24 ct24), sl24⟩) (c24 : PySem.W.codeIn K cd24 "law" = true) (k24 : PySem.W.keepIn K (.ref f24) = true)
    (z_repr : PySem.W.nsIn K mainGlobals "repr" = some none)
    (z_range : PySem.W.nsIn K mainGlobals "range" = some none)
    (z_isinstance : PySem.W.nsIn K mainGlobals "isinstance" = some none)
    (z_list : PySem.W.nsIn K mainGlobals "list" = some none)
    (z_tuple : PySem.W.nsIn K mainGlobals "tuple" = some none)
    (z_len : PySem.W.nsIn K mainGlobals "len" = some none)
    (z_int : PySem.W.nsIn K mainGlobals "int" = some none)
    (z_abs : PySem.W.nsIn K mainGlobals "abs" = some none)
    (z_min : PySem.W.nsIn K mainGlobals "min" = some none)
    (z_bool : PySem.W.nsIn K mainGlobals "bool" = some none)
    (v_MOST_WORDS : PySem.W.nsIn K mainGlobals "MOST_WORDS" = some (some (.int 4096 t_MOST_WORDS)))
    (v_MOST_CELLS : PySem.W.nsIn K mainGlobals "MOST_CELLS" = some (some (.int 500 t_MOST_CELLS)))
    (g_RowError : PySem.W.nsIn K mainGlobals "RowError" = some (some (.ref C_RowError)))
    (g_OutOfRange : PySem.W.nsIn K mainGlobals "OutOfRange" = some (some (.ref C_OutOfRange)))
    (g_TooLong : PySem.W.nsIn K mainGlobals "TooLong" = some (some (.ref C_TooLong)))
    (s_OutOfRange : PySem.W.subIn K (.ref C_OutOfRange) (.type "BaseException") = some true)
    (t_OutOfRange : PySem.W.typeIn K (.ref C_OutOfRange) = some (.type "type"))
    (d_OutOfRange : PySem.W.hasDictIn K C_OutOfRange = true)
    (s_TooLong : PySem.W.subIn K (.ref C_TooLong) (.type "BaseException") = some true)
    (t_TooLong : PySem.W.typeIn K (.ref C_TooLong) = some (.type "type"))
    (d_TooLong : PySem.W.hasDictIn K C_TooLong = true)
    (q_OutOfRange : PySem.W.excIn K C_OutOfRange [.type "ValueError", .type "Exception", .type "BaseException", .type "object"] "ValueError.__new__" = true)
    (k_OutOfRange : PySem.W.keepIn K (.ref C_OutOfRange) = true)
    (q_TooLong : PySem.W.excIn K C_TooLong [.type "ValueError", .type "Exception", .type "BaseException", .type "object"] "ValueError.__new__" = true)
    (k_TooLong : PySem.W.keepIn K (.ref C_TooLong) = true)
    (m_OutOfRange_OutOfRange : PySem.W.subIn K (.ref C_OutOfRange) (.ref C_OutOfRange) = some true)
    (m_TooLong_OutOfRange : PySem.W.subIn K (.ref C_TooLong) (.ref C_OutOfRange) = some false)
    (m_OutOfRange_TooLong : PySem.W.subIn K (.ref C_OutOfRange) (.ref C_TooLong) = some false)
    (m_TooLong_TooLong : PySem.W.subIn K (.ref C_TooLong) (.ref C_TooLong) = some true)
    : ∃ fd : FuncData, (∀ (s : Shared) (u : Value), BindsTo s fd ⟨[u], []⟩ [("_law_script", u)]) ∧ ∀ base : Heap, K.In base → base.Ns mainGlobals mg → FG l.prog w K mg base 8 fa fd ["_law_script"] (spD K mg 1 PF.f_law_k51) := by
  have e := hfa.symm.trans (PySem.W.mg_of X G a24)
  cases e
  have bl : Bl K mg C_RowError C_OutOfRange C_TooLong := ⟨PySem.W.mg_none_of X G z_repr, PySem.W.mg_none_of X G z_range, PySem.W.mg_none_of X G z_isinstance, PySem.W.mg_none_of X G z_list, PySem.W.mg_none_of X G z_tuple, PySem.W.mg_none_of X G z_len, PySem.W.mg_none_of X G z_int, PySem.W.mg_none_of X G z_abs, PySem.W.mg_none_of X G z_min, PySem.W.mg_none_of X G z_bool, ⟨_, PySem.W.mg_of X G v_MOST_WORDS⟩, ⟨_, PySem.W.mg_of X G v_MOST_CELLS⟩, PySem.W.mg_of X G g_RowError, PySem.W.mg_of X G g_OutOfRange, PySem.W.mg_of X G g_TooLong, ⟨C_OutOfRange, PySem.W.mg_of X G g_OutOfRange, q_OutOfRange, k_OutOfRange, s_OutOfRange, t_OutOfRange⟩, ⟨C_TooLong, PySem.W.mg_of X G g_TooLong, q_TooLong, k_TooLong, s_TooLong, t_TooLong⟩, (.cons (PySem.W.mg_of X G g_OutOfRange) (PySem.W.exm_ref s_OutOfRange d_OutOfRange t_OutOfRange m_OutOfRange_OutOfRange) (.cons (PySem.W.mg_of X G g_TooLong) (PySem.W.exm_ref s_OutOfRange d_OutOfRange t_OutOfRange m_TooLong_OutOfRange) .nil)), (.cons (PySem.W.mg_of X G g_OutOfRange) (PySem.W.exm_ref s_TooLong d_TooLong t_TooLong m_OutOfRange_TooLong) (.cons (PySem.W.mg_of X G g_TooLong) (PySem.W.exm_ref s_TooLong d_TooLong t_TooLong m_TooLong_TooLong) .nil))⟩
  have F0 := fun_mk (st := s__law_digits) l0 c0 k0
  have b0 := F0.binds (ps := ["_law_cell_here", "_law_base", "_law_most"]) fun _ _ _ _ _ _ us hl => match us, hl with | [_, _, _], _ => rfl
  have F1 := fun_mk (st := s__law_words) l1 c1 k1
  have b1 := F1.binds (ps := ["_law_size", "_law_length"]) fun _ _ _ _ _ _ us hl => match us, hl with | [_, _], _ => rfl
  have F2 := fun_mk (st := s__law_order) l2 c2 k2
  have b2 := F2.binds (ps := ["_law_size", "_law_draw"]) fun _ _ _ _ _ _ us hl => match us, hl with | [_, _], _ => rfl
  have F3 := fun_mk (st := s__law_partial) l3 c3 k3
  have b3 := F3.binds (ps := ["_law_draw"]) fun _ _ _ _ _ _ us hl => match us, hl with | [_], _ => rfl
  have F4 := fun_mk (st := s__law_new) l4 c4 k4
  have b4 := F4.binds (ps := ["_law_one", "_law_window"]) fun _ _ _ _ _ _ us hl => match us, hl with | [_, _], _ => rfl
  have F5 := fun_mk (st := s__law_word) l5 c5 k5
  have b5 := F5.binds (ps := ["_law_one", "_law_word_here"]) fun _ _ _ _ _ _ us hl => match us, hl with | [_, _], _ => rfl
  have F6 := fun_mk (st := s__law_after) l6 c6 k6
  have b6 := F6.binds (ps := ["_law_first", "_law_second"]) fun _ _ _ _ _ _ us hl => match us, hl with | [_, _], _ => rfl
  have F7 := fun_mk (st := s__law_map) l7 c7 k7
  have b7 := F7.binds (ps := ["_law_first", "_law_second"]) fun _ _ _ _ _ _ us hl => match us, hl with | [_, _], _ => rfl
  have F8 := fun_mk (st := s__law_cell) l8 c8 k8
  have b8 := F8.binds (ps := ["_law_script", "_law_k"]) fun _ _ _ _ _ _ us hl => match us, hl with | [_, _], _ => rfl
  have F9 := fun_mk (st := s__law_simple) l9 c9 k9
  have b9 := F9.binds (ps := ["_law_row"]) fun _ _ _ _ _ _ us hl => match us, hl with | [_], _ => rfl
  have F10 := fun_mk (st := s__law_image) l10 c10 k10
  have b10 := F10.binds (ps := ["_law_one", "_law_row"]) fun _ _ _ _ _ _ us hl => match us, hl with | [_, _], _ => rfl
  have F11 := fun_mk (st := s__law_return) l11 c11 k11
  have b11 := F11.binds (ps := ["_law_one", "_law_cells", "_law_most"]) fun _ _ _ _ _ _ us hl => match us, hl with | [_, _, _], _ => rfl
  have F12 := fun_mk (st := s_count_words) l12 c12 k12
  have b12 := F12.binds (ps := ["size", "length"]) fun _ _ _ _ _ _ us hl => match us, hl with | [_, _], _ => rfl
  have F13 := fun_mk (st := s_digits_of) l13 c13 k13
  have b13 := F13.binds (ps := ["size", "number", "count"]) fun _ _ _ _ _ _ us hl => match us, hl with | [_, _, _], _ => rfl
  have F14 := fun_mk (st := s_spread_simple) l14 c14 k14
  have b14 := F14.binds (ps := ["row"]) fun _ _ _ _ _ _ us hl => match us, hl with | [_], _ => rfl
  have F15 := fun_mk (st := s_number_of) l15 c15 k15
  have b15 := F15.binds (ps := ["size", "digits"]) fun _ _ _ _ _ _ us hl => match us, hl with | [_, _], _ => rfl
  have F16 := fun_mk (st := s_new_cell) l16 c16 k16
  have b16 := F16.binds (ps := ["one", "window"]) fun _ _ _ _ _ _ us hl => match us, hl with | [_, _], _ => rfl
  have F17 := fun_mk (st := s_apply_word) l17 c17 k17
  have b17 := F17.binds (ps := ["one", "word"]) fun _ _ _ _ _ _ us hl => match us, hl with | [_, _], _ => rfl
  have F18 := fun_mk (st := s_spread_image) l18 c18 k18
  have b18 := F18.binds (ps := ["one", "row"]) fun _ _ _ _ _ _ us hl => match us, hl with | [_, _], _ => rfl
  have F19 := fun_mk (st := s_return_of) l19 c19 k19
  have b19 := PL.Fun.bindsK F19 (ps := ["one", "row", "most"]) (ks := ["most"]) (n := 2) fun _ _ _ _ _ _ us ws hu hw => match us, ws, hu, hw with | [_, _], [_], _, _ => rfl
  have F20 := fun_mk (st := s_patterns) l20 c20 k20
  have b20 := PL.Fun.bindsK F20 (ps := ["one", "length", "most"]) (ks := ["most"]) (n := 2) fun _ _ _ _ _ _ us ws hu hw => match us, ws, hu, hw with | [_, _], [_], _, _ => rfl
  have F21 := fun_mk (st := s__law_plain) l21 c21 k21
  have b21 := F21.binds (ps := ["_law_item"]) fun _ _ _ _ _ _ us hl => match us, hl with | [_], _ => rfl
  have F22 := fun_mk (st := s__law_refused) l22 c22 k22
  have b22 := F22.binds (ps := ["_law_one", "_law_length", "_law_most"]) fun _ _ _ _ _ _ us hl => match us, hl with | [_, _, _], _ => rfl
  have F23 := fun_mk (st := s__law_many_words) l23 c23 k23
  have b23 := F23.binds (ps := ["_law_size", "_law_draw"]) fun _ _ _ _ _ _ us hl => match us, hl with | [_, _], _ => rfl
  have F24 := fun_mk (st := s_law) l24 c24 k24
  refine ⟨PySem.W.fnOf "law" "law" (defArgs s_law) (defBody s_law) (defScope s_law) .none kV24 dc24 pm24 an24 cd24 ct24, fun s v => .of_eq rfl, fun base _ _ => ?_⟩
  have H0 : Has l.prog w K mg base 1 "_law_digits" ["_law_cell_here", "_law_base", "_law_most"] PF.f__law_digits_v1 := Has.mk' F0 (PySem.W.mg_of X G a0) b0 (ok__law_digits F0 bl )
  have H1 : Has l.prog w K mg base 1 "_law_words" ["_law_size", "_law_length"] PF.f__law_words := Has.mk' F1 (PySem.W.mg_of X G a1) b1 (ok__law_words F1 bl )
  have H2 : Has l.prog w K mg base 1 "_law_order" ["_law_size", "_law_draw"] PF.f__law_order_v1 := Has.mk' F2 (PySem.W.mg_of X G a2) b2 (ok__law_order F2 bl )
  have H3 : Has l.prog w K mg base 2 "_law_partial" ["_law_draw"] PF.f__law_partial := Has.mk' F3 (PySem.W.mg_of X G a3) b3 (ok__law_partial F3 bl H1 H2)
  have H4 : Has l.prog w K mg base 1 "_law_new" ["_law_one", "_law_window"] PF.f__law_new := Has.mk' F4 (PySem.W.mg_of X G a4) b4 (ok__law_new F4 bl )
  have H5 : Has l.prog w K mg base 2 "_law_word" ["_law_one", "_law_word_here"] PF.f__law_word := Has.mk' F5 (PySem.W.mg_of X G a5) b5 (ok__law_word F5 bl H4)
  have H6 : Has l.prog w K mg base 3 "_law_after" ["_law_first", "_law_second"] PF.f__law_after_v1 := Has.mk' F6 (PySem.W.mg_of X G a6) b6 (ok__law_after F6 bl H1 H4 H5)
  have H7 : Has l.prog w K mg base 4 "_law_map" ["_law_first", "_law_second"] PF.f__law_map_v1 := Has.mk' F7 (PySem.W.mg_of X G a7) b7 (ok__law_map F7 bl H0 H1 H2 H3 H6)
  have H8 : Has l.prog w K mg base 1 "_law_cell" ["_law_script", "_law_k"] PF.f__law_cell_v1 := Has.mk' F8 (PySem.W.mg_of X G a8) b8 (ok__law_cell F8 bl )
  have H9 : Has l.prog w K mg base 1 "_law_simple" ["_law_row"] PF.f__law_simple := Has.mk' F9 (PySem.W.mg_of X G a9) b9 (ok__law_simple F9 bl )
  have H10 : Has l.prog w K mg base 3 "_law_image" ["_law_one", "_law_row"] PF.f__law_image := Has.mk' F10 (PySem.W.mg_of X G a10) b10 (ok__law_image F10 bl H4 H9 H5)
  have H11 : Has l.prog w K mg base 4 "_law_return" ["_law_one", "_law_cells", "_law_most"] PF.f__law_return := Has.mk' F11 (PySem.W.mg_of X G a11) b11 (ok__law_return F11 bl H10)
  have H12 : Has l.prog w K mg base 1 "count_words" ["size", "length"] PF.f_count_words := Has.mk' F12 (PySem.W.mg_of X G a12) b12 (ok_count_words F12 bl )
  have H13 : Has l.prog w K mg base 1 "digits_of" ["size", "number", "count"] PF.f_digits_of := Has.mk' F13 (PySem.W.mg_of X G a13) b13 (ok_digits_of F13 bl )
  have H14 : Has l.prog w K mg base 1 "spread_simple" ["row"] PF.f_spread_simple := Has.mk' F14 (PySem.W.mg_of X G a14) b14 (ok_spread_simple F14 bl )
  have H15 : Has l.prog w K mg base 1 "number_of" ["size", "digits"] PF.f_number_of := Has.mk' F15 (PySem.W.mg_of X G a15) b15 (ok_number_of F15 bl )
  have H16 : Has l.prog w K mg base 2 "new_cell" ["one", "window"] PF.f_new_cell := Has.mk' F16 (PySem.W.mg_of X G a16) b16 (ok_new_cell F16 bl H15)
  have H17 : Has l.prog w K mg base 3 "apply_word" ["one", "word"] PF.f_apply_word := Has.mk' F17 (PySem.W.mg_of X G a17) b17 (ok_apply_word F17 bl H16)
  have H18 : Has l.prog w K mg base 4 "spread_image" ["one", "row"] PF.f_spread_image := Has.mk' F18 (PySem.W.mg_of X G a18) b18 (ok_spread_image F18 bl H17 H14 H16)
  have H19 : HasK l.prog w K mg base 5 "return_of" ["one", "row", "most"] ["most"] 2 PF.f_return_of := HasK.mk' F19 (PySem.W.mg_of X G a19) b19 (ok_return_of F19 bl H14 H18)
  have H20 : HasK l.prog w K mg base 6 "patterns" ["one", "length", "most"] ["most"] 2 PF.f_patterns := HasK.mk' F20 (PySem.W.mg_of X G a20) b20 (ok_patterns F20 bl H12 H13 H19)
  have H21_0 : Has l.prog w K mg base 1 "_law_plain" ["_law_item"] PF.f__law_plain_v1_0 := Has.mk' F21 (PySem.W.mg_of X G a21) b21 (fgNone rfl)
  have H21_1 : Has l.prog w K mg base 2 "_law_plain" ["_law_item"] PF.f__law_plain_v1_1 := Has.mk' F21 (PySem.W.mg_of X G a21) b21 (ok__law_plain_1 F21 bl  H21_0)
  have H21_2 : Has l.prog w K mg base 3 "_law_plain" ["_law_item"] PF.f__law_plain_v1_2 := Has.mk' F21 (PySem.W.mg_of X G a21) b21 (ok__law_plain_2 F21 bl  H21_1)
  have H21_3 : Has l.prog w K mg base 4 "_law_plain" ["_law_item"] PF.f__law_plain_v1_3 := Has.mk' F21 (PySem.W.mg_of X G a21) b21 (ok__law_plain_3 F21 bl  H21_2)
  have H21_4 : Has l.prog w K mg base 5 "_law_plain" ["_law_item"] PF.f__law_plain_v1_4 := Has.mk' F21 (PySem.W.mg_of X G a21) b21 (ok__law_plain_4 F21 bl  H21_3)
  have H21_5 : Has l.prog w K mg base 6 "_law_plain" ["_law_item"] PF.f__law_plain_v1_5 := Has.mk' F21 (PySem.W.mg_of X G a21) b21 (ok__law_plain_5 F21 bl  H21_4)
  have H21 : Has l.prog w K mg base 7 "_law_plain" ["_law_item"] PF.f__law_plain_v1_6 := Has.mk' F21 (PySem.W.mg_of X G a21) b21 (ok__law_plain_6 F21 bl  H21_5)
  have H22 : Has l.prog w K mg base 7 "_law_refused" ["_law_one", "_law_length", "_law_most"] PF.f__law_refused_v11 := Has.mk' F22 (PySem.W.mg_of X G a22) b22 (ok__law_refused F22 bl H20)
  have H23 : Has l.prog w K mg base 7 "_law_many_words" ["_law_size", "_law_draw"] PF.f__law_many_words := Has.mk' F23 (PySem.W.mg_of X G a23) b23 (ok__law_many_words F23 bl H20)
  exact ok_law F24 bl H7 H8 H0 H1 H11 H20 H21 H22 H23
end LK51
open PySem PySem.W PyProof.Rows
set_option maxHeartbeats 0 in
theorem PySem.Challenge.cw_edenrow_k51_patterns_found_holds : PySem.Challenge.rw_edenrow_k51_patterns_found.Holds := by
  w_on; o_law; k_head; (case hw => w_witness2)
  k_fill
  refine PL.walkG (l := PySem.Challenge.rw_edenrow_k51_patterns_found) (k := 8) (x := "_law_script") (LF := PF.f_law_k51) rfl rfl ⟨rfl, by decide, by decide⟩ (fun w h Y => PySem.W.kIn_of Y) ?F PF.plain_law_k51
  case F =>
    intro w mg fa h KX G hmg
    refine' LK51.all_mk KX G hmg ?a0 ?l0 ?c0 ?k0 ?a1 ?l1 ?c1 ?k1 ?a2 ?l2 ?c2 ?k2 ?a3 ?l3 ?c3 ?k3 ?a4 ?l4 ?c4 ?k4 ?a5 ?l5 ?c5 ?k5 ?a6 ?l6 ?c6 ?k6 ?a7 ?l7 ?c7 ?k7 ?a8 ?l8 ?c8 ?k8 ?a9 ?l9 ?c9 ?k9 ?a10 ?l10 ?c10 ?k10 ?a11 ?l11 ?c11 ?k11 ?a12 ?l12 ?c12 ?k12 ?a13 ?l13 ?c13 ?k13 ?a14 ?l14 ?c14 ?k14 ?a15 ?l15 ?c15 ?k15 ?a16 ?l16 ?c16 ?k16 ?a17 ?l17 ?c17 ?k17 ?a18 ?l18 ?c18 ?k18 ?a19 ?l19 ?c19 ?k19 ?a20 ?l20 ?c20 ?k20 ?a21 ?l21 ?c21 ?k21 ?a22 ?l22 ?c22 ?k22 ?a23 ?l23 ?c23 ?k23 ?a24 ?l24 ?c24 ?k24 ?z_repr ?z_range ?z_isinstance ?z_list ?z_tuple ?z_len ?z_int ?z_abs ?z_min ?z_bool ?v_MOST_WORDS ?v_MOST_CELLS ?g_RowError ?g_OutOfRange ?g_TooLong ?s_OutOfRange ?t_OutOfRange ?d_OutOfRange ?s_TooLong ?t_TooLong ?d_TooLong ?q_OutOfRange ?k_OutOfRange ?q_TooLong ?k_TooLong ?m_OutOfRange_OutOfRange ?m_TooLong_OutOfRange ?m_OutOfRange_TooLong ?m_TooLong_TooLong
    (case a0 => k_is)
    (case l0 => k_is)
    (case c0 => k_is)
    (case k0 => k_is)
    (case a1 => k_is)
    (case l1 => k_is)
    (case c1 => k_is)
    (case k1 => k_is)
    (case a2 => k_is)
    (case l2 => k_is)
    (case c2 => k_is)
    (case k2 => k_is)
    (case a3 => k_is)
    (case l3 => k_is)
    (case c3 => k_is)
    (case k3 => k_is)
    (case a4 => k_is)
    (case l4 => k_is)
    (case c4 => k_is)
    (case k4 => k_is)
    (case a5 => k_is)
    (case l5 => k_is)
    (case c5 => k_is)
    (case k5 => k_is)
    (case a6 => k_is)
    (case l6 => k_is)
    (case c6 => k_is)
    (case k6 => k_is)
    (case a7 => k_is)
    (case l7 => k_is)
    (case c7 => k_is)
    (case k7 => k_is)
    (case a8 => k_is)
    (case l8 => k_is)
    (case c8 => k_is)
    (case k8 => k_is)
    (case a9 => k_is)
    (case l9 => k_is)
    (case c9 => k_is)
    (case k9 => k_is)
    (case a10 => k_is)
    (case l10 => k_is)
    (case c10 => k_is)
    (case k10 => k_is)
    (case a11 => k_is)
    (case l11 => k_is)
    (case c11 => k_is)
    (case k11 => k_is)
    (case a12 => k_is)
    (case l12 => k_is)
    (case c12 => k_is)
    (case k12 => k_is)
    (case a13 => k_is)
    (case l13 => k_is)
    (case c13 => k_is)
    (case k13 => k_is)
    (case a14 => k_is)
    (case l14 => k_is)
    (case c14 => k_is)
    (case k14 => k_is)
    (case a15 => k_is)
    (case l15 => k_is)
    (case c15 => k_is)
    (case k15 => k_is)
    (case a16 => k_is)
    (case l16 => k_is)
    (case c16 => k_is)
    (case k16 => k_is)
    (case a17 => k_is)
    (case l17 => k_is)
    (case c17 => k_is)
    (case k17 => k_is)
    (case a18 => k_is)
    (case l18 => k_is)
    (case c18 => k_is)
    (case k18 => k_is)
    (case a19 => k_is)
    (case l19 => k_is)
    (case c19 => k_is)
    (case k19 => k_is)
    (case a20 => k_is)
    (case l20 => k_is)
    (case c20 => k_is)
    (case k20 => k_is)
    (case a21 => k_is)
    (case l21 => k_is)
    (case c21 => k_is)
    (case k21 => k_is)
    (case a22 => k_is)
    (case l22 => k_is)
    (case c22 => k_is)
    (case k22 => k_is)
    (case a23 => k_is)
    (case l23 => k_is)
    (case c23 => k_is)
    (case k23 => k_is)
    (case a24 => k_is)
    (case l24 => k_is)
    (case c24 => k_is)
    (case k24 => k_is)
    (case z_repr => k_is)
    (case z_range => k_is)
    (case z_isinstance => k_is)
    (case z_list => k_is)
    (case z_tuple => k_is)
    (case z_len => k_is)
    (case z_int => k_is)
    (case z_abs => k_is)
    (case z_min => k_is)
    (case z_bool => k_is)
    (case v_MOST_WORDS => k_is)
    (case v_MOST_CELLS => k_is)
    (case g_RowError => k_is)
    (case g_OutOfRange => k_is)
    (case g_TooLong => k_is)
    (case s_OutOfRange => k_is)
    (case t_OutOfRange => k_is)
    (case d_OutOfRange => k_is)
    (case s_TooLong => k_is)
    (case t_TooLong => k_is)
    (case d_TooLong => k_is)
    (case q_OutOfRange => k_exc)
    (case k_OutOfRange => k_is)
    (case q_TooLong => k_exc)
    (case k_TooLong => k_is)
    (case m_OutOfRange_OutOfRange => k_is)
    (case m_TooLong_OutOfRange => k_is)
    (case m_OutOfRange_TooLong => k_is)
    (case m_TooLong_TooLong => k_is)
