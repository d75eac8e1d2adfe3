import PyProof.Rows.All
import PySem.Challenge.RW_edenrow_k17_classes_of_exceptions
import HandS.Base
import HandS.Call
import HandS.List
import HandS.Comp
import HandS.TupSets
import HandS.Ends
import HandS.Words
import HandS.WordsList
import HandS.Exc
import HandS.TryOnly
import HandS.ExcCtx
import HandS.HotCalls
import HandS.ExcOwn
import HandS.TupAny
import HandS.Style
import HandS.Deep
import KE.DataEq
import KE.DataCmp
import KE.DataIsa
import KE.SortData
import PyProof.ReprReads
import PyProof.Rows.SeqMore
import PyProof.Rows.ListMulArg
import PyProof.ReprRoads
import HandS.RaiseMore
import KE.DataMinMax
import HandS.Flow
import HandS.Iter
import HandS.Zip
import HandS.Rev
import PyProof.ReprLen
import HandS.ExcIs
import PyProof.ExcBaseAll.ValueError
import KE.KRevSl
import HandS.RevTup
import PyProof.ListRange
import PyProof.IsiTupleOf
import PyProof.IsiTupleAll
import HandS.TryMany
import HandS.SetBool
import HandS.DictComp
import HandS.SetIn
import HandS.TupLen
import PyProof.Rows.GenSrcRange
import HandS.Conv
import HandS.NoneIn
import HandS.More
import HandS.Text
import HandS.ExcValue
import KE.KExcStr
import PyProof.StrBlock2
set_option Elab.async false
set_option linter.all false
set_option maxRecDepth 100000
set_option maxHeartbeats 4000000
namespace PL.BS
open PySem PySem.Spec PyProof.Rows L2
def X5 : Nat → Nat
  | 0 => 0
  | n + 1 => X5 n * 5 + 1
theorem x5_add (a : Nat) : ∀ b, X5 (a + b) = 5 ^ b * X5 a + X5 b
  | 0 => by rw [Nat.add_zero, Nat.pow_zero, Nat.one_mul]; rfl
  | b + 1 => by
    show X5 (a + b) * 5 + 1 = 5 ^ (b + 1) * X5 a + (X5 b * 5 + 1)
    rw [x5_add a b, Nat.pow_succ, Nat.add_mul, Nat.mul_right_comm]; omega
theorem x5_pow5 : ∀ n, 5 ^ n = 4 * X5 n + 1
  | 0 => rfl
  | n + 1 => by
    rw [Nat.pow_succ, x5_pow5 n]
    show (4 * X5 n + 1) * 5 = 4 * (X5 n * 5 + 1) + 1
    omega
theorem x5_odd : ∀ k, ∃ r, X5 (2 ^ k) = 2 ^ k * (2 * r + 1)
  | 0 => ⟨0, rfl⟩
  | k + 1 => by
    obtain ⟨r, hr⟩ := x5_odd k
    refine ⟨2 * r * X5 (2 ^ k) + r + X5 (2 ^ k), ?_⟩
    have e : X5 (2 ^ (k + 1)) = (2 * X5 (2 ^ k)) * (2 * X5 (2 ^ k) + 1) := by
      rw [show 2 ^ (k + 1) = 2 ^ k + 2 ^ k by rw [Nat.pow_succ]; omega, x5_add, x5_pow5, Nat.add_mul, Nat.one_mul, Nat.mul_add, Nat.mul_one]
      have : 4 * X5 (2 ^ k) * X5 (2 ^ k) = 2 * X5 (2 ^ k) * (2 * X5 (2 ^ k)) := by
        rw [Nat.mul_assoc, Nat.mul_assoc, Nat.mul_left_comm (X5 (2 ^ k)), ← Nat.mul_assoc 2 2]
      omega
    have e2 : 2 * (2 * r * X5 (2 ^ k) + r + X5 (2 ^ k)) + 1 = (2 * r + 1) * (2 * X5 (2 ^ k) + 1) := by
      have h1 : (2 * r + 1) * (2 * X5 (2 ^ k) + 1) = (2 * r) * (2 * X5 (2 ^ k) + 1) + 1 * (2 * X5 (2 ^ k) + 1) := Nat.add_mul ..
      have h2 : (2 * r) * (2 * X5 (2 ^ k) + 1) = (2 * r) * (2 * X5 (2 ^ k)) + (2 * r) * 1 := Nat.mul_add ..
      have h3 : 2 * r * (2 * X5 (2 ^ k)) = 2 * (2 * r * X5 (2 ^ k)) := Nat.mul_left_comm _ _ _
      omega
    rw [e2, e, Nat.pow_succ, Nat.mul_comm (2 ^ k) 2, Nat.mul_assoc, Nat.mul_assoc, ← Nat.mul_assoc (2 ^ k), ← hr]
theorem two_mod {y P : Nat} (h : y < 2 * P) : y = y % P ∨ y = y % P + P := by
  rcases Nat.lt_or_ge y P with c | c
  · exact .inl (Nat.mod_eq_of_lt c).symm
  · right
    rw [Nat.mod_eq_sub_mod c, Nat.mod_eq_of_lt (by omega)]; omega
theorem x5_onto : ∀ k j, j < 2 ^ k → ∃ b, b < 2 ^ k ∧ X5 b % 2 ^ k = j
  | 0, j, h => ⟨0, by decide, by rw [Nat.pow_zero] at h; show 0 % _ = j; rw [Nat.zero_mod]; omega⟩
  | k + 1, j, h => by
    obtain ⟨b, hb, eb⟩ := x5_onto k (j % 2 ^ k) (Nat.mod_lt _ (Nat.pow_pos (by decide)))
    obtain ⟨r, hr⟩ := x5_odd k
    have hp : 2 ^ (k + 1) = 2 * 2 ^ k := by rw [Nat.pow_succ]; omega
    have h0 : 0 < 2 ^ k := Nat.pow_pos (by decide)
    have mm : X5 b % (2 * 2 ^ k) % 2 ^ k = X5 b % 2 ^ k := Nat.mod_mul_left_mod _ _ _
    have jm : j % 2 ^ k = j ∨ j % 2 ^ k + 2 ^ k = j := (two_mod (show j < 2 * 2 ^ k by omega)).imp Eq.symm Eq.symm
    have xm : X5 b % (2 * 2 ^ k) = j % 2 ^ k ∨ X5 b % (2 * 2 ^ k) = j % 2 ^ k + 2 ^ k := by
      have := two_mod (Nat.mod_lt (X5 b) (show 0 < 2 * 2 ^ k by omega))
      rw [mm, eb] at this
      exact this
    by_cases hit : X5 b % (2 * 2 ^ k) = j
    · exact ⟨b, by omega, by rw [hp]; exact hit⟩
    · refine ⟨2 ^ k + b, by omega, ?_⟩
      have e1 : X5 (2 ^ k + b) = 2 * 2 ^ k * (2 * X5 b * (2 * r + 1) + r) + (2 ^ k + X5 b) := by
        rw [x5_add, x5_pow5, hr]
        have : (4 * X5 b + 1) * (2 ^ k * (2 * r + 1)) = 2 ^ k * (2 * (2 * X5 b * (2 * r + 1) + r) + 1) := by
          rw [Nat.mul_left_comm]
          congr 1
          have h1 : (4 * X5 b + 1) * (2 * r + 1) = (4 * X5 b) * (2 * r + 1) + 1 * (2 * r + 1) := Nat.add_mul ..
          have h2 : 4 * X5 b * (2 * r + 1) = 4 * (X5 b * (2 * r + 1)) := Nat.mul_assoc ..
          have h3 : 2 * X5 b * (2 * r + 1) = 2 * (X5 b * (2 * r + 1)) := Nat.mul_assoc ..
          omega
        rw [this, Nat.mul_add (2 ^ k), Nat.mul_one, ← Nat.mul_assoc, Nat.mul_comm (2 ^ k) 2, Nat.add_assoc]
      rw [hp, e1, Nat.mul_add_mod, Nat.add_mod, Nat.mod_eq_of_lt (show 2 ^ k < 2 * 2 ^ k by omega)]
      rcases xm with c | c
      · rw [c, Nat.mod_eq_of_lt (by omega)]; omega
      · rw [c, show 2 ^ k + (j % 2 ^ k + 2 ^ k) = 2 * 2 ^ k + j % 2 ^ k by omega, Nat.add_mod_left, Nat.mod_eq_of_lt (by have := Nat.mod_lt j h0; omega)]; omega
theorem lcg_x5 (m : Nat) : ∀ n, lcgN m n = X5 n % (m + 1)
  | 0 => (Nat.zero_mod _).symm
  | n + 1 => by
    show (lcgN m n * 5 + 1) % (m + 1) = (X5 n * 5 + 1) % (m + 1)
    rw [lcg_x5 m n, Nat.add_mod, Nat.mul_mod, Nat.mod_mod, ← Nat.mul_mod, ← Nat.add_mod]
/-- the masks of tables with up to 4096 members -/
def MaskB (m : Nat) : Prop := m = 7 ∨ m = 31 ∨ m = 127 ∨ m = 511 ∨ m = 2047 ∨ m = 8191
theorem MaskB.pow {m : Nat} (h : MaskB m) : ∃ k, m + 1 = 2 ^ k := by
  rcases h with rfl | rfl | rfl | rfl | rfl | rfl
  · exact ⟨3, rfl⟩
  · exact ⟨5, rfl⟩
  · exact ⟨7, rfl⟩
  · exact ⟨9, rfl⟩
  · exact ⟨11, rfl⟩
  · exact ⟨13, rfl⟩
theorem MaskB.le {m : Nat} (h : MaskB m) : 7 ≤ m ∧ m ≤ 8191 ∧ m % 2 = 1 := by
  rcases h with rfl | rfl | rfl | rfl | rfl | rfl <;> decide
theorem allB {m : Nat} (hm : MaskB m) {j : Nat} (hj : j ≤ m) : ∃ b, b ≤ m ∧ lcgN m b = j := by
  obtain ⟨k, hk⟩ := hm.pow
  obtain ⟨b, b1, b2⟩ := x5_onto k j (by omega)
  exact ⟨b, by omega, by rw [lcg_x5, hk]; exact b2⟩
theorem backB {m : Nat} (hm : MaskB m) : ∀ k, lcgN m (m + 1 + k) = lcgN m k
  | 0 => by
    obtain ⟨k, hk⟩ := hm.pow
    obtain ⟨r, hr⟩ := x5_odd k
    rw [Nat.add_zero, lcg_x5, hk, hr, Nat.mul_mod_right]; rfl
  | k + 1 => by rw [← Nat.add_assoc, lcgN, lcgN, backB hm k]
theorem fromB {m : Nat} (hm : MaskB m) {i j : Nat} (hi : i ≤ m) (hj : j ≤ m) : ∃ k, k ≤ m ∧ lcgI m i k = j := by
  obtain ⟨a, a1, rfl⟩ := allB hm hi
  obtain ⟨b, b1, rfl⟩ := allB hm hj
  by_cases c : b < a
  · exact ⟨m + 1 + b - a, by omega, by rw [lcgN_add, show a + (m + 1 + b - a) = m + 1 + b by omega, backB hm]⟩
  · exact ⟨b - a, by omega, by rw [lcgN_add, show a + (b - a) = b by omega]⟩
theorem runB {m : Nat} (hm : MaskB m) (h : Int) {j : Nat} (hj : j ≤ m) : ∃ n, n ≤ m + 12 ∧ runI m (SetTable.bits h) n = j := by
  obtain ⟨k, k1, k2⟩ := fromB hm (runI_le m (SetTable.bits h) 12) hj
  exact ⟨12 + k, by omega, (runI_tail (bits_lt h) k).trans k2⟩
/-- the table finds all of its members again -/
structure TabB (t : SetTable) (hs : List Int) : Prop where
  ris : Ris t.place.toList
  dm : t.dummies = #[]
  sz : t.place.size = hs.length
  mok : MaskB t.mask
  bd : ∀ x ∈ t.place.toList, x ≤ t.mask
  reach : ∀ (i : Nat) (h : Int) (j : Nat), hs[i]? = some h → t.place.toList[i]? = some j → ∃ k, way t.mask h k = j ∧ ∀ k', k' < k → way t.mask h k' ∈ t.place.toList
theorem TabB.len {t : SetTable} {hs : List Int} (T : TabB t hs) : t.place.toList.length = hs.length := T.sz
theorem TabB.free {t : SetTable} {hs : List Int} (T : TabB t hs) (hl : hs.length ≤ t.mask) (h : Int) : ∃ K, K < 10 * SetTable.turns t.mask ∧ way t.mask h K ∉ t.place.toList ∧ ∀ k, k < K → way t.mask h k ∈ t.place.toList := by
  obtain ⟨j, j1, j2⟩ := st_missing t.place.toList (t.mask + 1) (by rw [T.len]; omega)
  obtain ⟨n, n1, n2⟩ := runB T.mok h (show j ≤ t.mask by omega)
  obtain ⟨k, k1, k2⟩ := run_nth t.mask (SetTable.bits h) n
  have ek : way t.mask h k = j := (congrArg SetTable.Probe.j k2).trans n2
  obtain ⟨K, q1, q2, q3⟩ := st_least (p := fun k => ¬ way t.mask h k ∈ t.place.toList) k (show ¬ way t.mask h k ∈ t.place.toList by rw [ek]; exact j2)
  exact ⟨K, by unfold SetTable.turns; omega, q2, fun c hc => Classical.byContradiction fun z => q3 c hc z⟩
end PL.BS
namespace PL.BS
open PySem PySem.Spec PyProof.Rows L2
abbrev Mem := List (Addr × List Int)
structure SetB (P : Program) (w : World) (h : Heap) (a : Addr) (L : Mem) (es : Array (Int × Value)) (ep : Nat) (t : SetTable) : Prop where
  ob : ∃ o, h.get? a = some o ∧ o.ExactSet ∧ o.data = .set es ep t
  rows : es.toList = rowsOf P w L
  tab : TabB t (L.map fun p => thash P w p.2)
  nd : (L.map (·.2)).Nodup
  tup : ∀ p ∈ L, IsT P w h p.2 p.1
  plain : t.plain = true
  led : w.params.followText "set-order" = true ∨ t.led = true
  room : L.length * 5 < t.mask * 3
  few : L.length < 4096
section
variable {P : Program} {w : World} {A : Around} {E : Value → Shared → Prop} {s : Shared} {a : Addr} {L : Mem} {es : Array (Int × Value)} {ep : Nat} {t : SetTable}
theorem SetB.size (S : SetB P w s.heap a L es ep t) : es.size = L.length := by
  have := congrArg List.length S.rows
  rwa [Array.length_toList, rowsOf, List.length_map] at this
theorem SetB.ok (S : SetB P w s.heap a L es ep t) : ¬ t.gaveWay = true := by
  unfold SetTable.gaveWay
  rw [S.tab.mok.le.2.2]; decide
end
end PL.BS
namespace PL.BS
open PySem PySem.Spec PyProof.Rows L2
/-- the set at a, its tuples apart -/
structure SetB0 (P : Program) (w : World) (h : Heap) (a : Addr) (L : Mem) : Prop where
  ex : ∃ (es : Array (Int × Value)) (ep : Nat) (t : SetTable), (∃ o, h.get? a = some o ∧ o.ExactSet ∧ o.data = .set es ep t) ∧ es.toList = rowsOf P w L ∧ TabB t (L.map fun p => thash P w p.2) ∧ (L.map (·.2)).Nodup ∧ t.plain = true ∧ (w.params.followText "set-order" = true ∨ t.led = true) ∧ L.length * 5 < t.mask * 3 ∧ L.length < 4096
def SetBO (P : Program) (w : World) (a : Addr) (L : Mem) : HO := .ext fun h => SetB0 P w h a L
end PL.BS
namespace PL
open PySem PySem.Spec PyProof.Rows L2
mutual
inductive Rep (L : Addr → HO → Prop) : V → PyData → Prop
  | non : Rep L .non .none
  | bl (b : Bool) : Rep L (.bl b) (.bool b)
  | int (i : Int) : Rep L (.int i) (.int i)
  | str (x : Str) : Rep L (.str x) (.str x)
  | lst {a : Addr} {xs : List V} {ds : List PyData} : L a (.lst xs) → RepAll L xs ds → Rep L (.ref a) (.list ds)
  | tup {a : Addr} {xs : List V} {ds : List PyData} : L a (.tup xs) → RepAll L xs ds → Rep L (.ref a) (.tuple ds)
inductive RepAll (L : Addr → HO → Prop) : List V → List PyData → Prop
  | nil : RepAll L [] []
  | cons {v : V} {vs : List V} {d : PyData} {ds : List PyData} : Rep L v d → RepAll L vs ds → RepAll L (v :: vs) (d :: ds)
end
section
variable {L L' : Addr → HO → Prop}
mutual
theorem Rep.mono (h : ∀ a o, L a o → L' a o) : ∀ {v : V} {d : PyData}, Rep L v d → Rep L' v d
  | _, _, .non => .non
  | _, _, .bl b => .bl b
  | _, _, .int i => .int i
  | _, _, .str x => .str x
  | _, _, .lst e r => .lst (h _ _ e) (RepAll.mono h r)
  | _, _, .tup e r => .tup (h _ _ e) (RepAll.mono h r)
theorem RepAll.mono (h : ∀ a o, L a o → L' a o) : ∀ {vs : List V} {ds : List PyData}, RepAll L vs ds → RepAll L' vs ds
  | _, _, .nil => .nil
  | _, _, .cons r rs => .cons (Rep.mono h r) (RepAll.mono h rs)
end
theorem RepAll.length : ∀ {vs : List V} {ds : List PyData}, RepAll L vs ds → vs.length = ds.length
  | _, _, .nil => rfl
  | _, _, .cons _ rs => congrArg (· + 1) rs.length
theorem RepAll.at : ∀ {vs : List V} {ds : List PyData} {i : Nat} {d : PyData}, RepAll L vs ds → ds[i]? = some d → ∃ v, vs[i]? = some v ∧ Rep L v d
  | _, _, _, _, .nil, h => by simp at h
  | _, _, 0, _, .cons r _, h => by simp at h; subst h; exact ⟨_, rfl, r⟩
  | _, _, i + 1, _, .cons _ rs, h => by simpa using RepAll.at (i := i) rs (by simpa using h)
theorem RepAll.at' : ∀ {vs : List V} {ds : List PyData} {i : Nat} {v : V}, RepAll L vs ds → vs[i]? = some v → ∃ d, ds[i]? = some d ∧ Rep L v d
  | _, _, _, _, .nil, h => by simp at h
  | _, _, 0, _, .cons r _, h => by simp at h; subst h; exact ⟨_, rfl, r⟩
  | _, _, i + 1, _, .cons _ rs, h => by simpa using RepAll.at' (i := i) rs (by simpa using h)
theorem RepAll.append : ∀ {vs ws : List V} {ds es : List PyData}, RepAll L vs ds → RepAll L ws es → RepAll L (vs ++ ws) (ds ++ es)
  | _, _, _, _, .nil, r => r
  | _, _, _, _, .cons r rs, q => .cons r (RepAll.append rs q)
theorem RepAll.take : ∀ {vs : List V} {ds : List PyData} (n : Nat), RepAll L vs ds → RepAll L (vs.take n) (ds.take n)
  | _, _, 0, _ => .nil
  | _, _, _ + 1, .nil => .nil
  | _, _, n + 1, .cons r rs => .cons r (RepAll.take n rs)
theorem RepAll.drop : ∀ {vs : List V} {ds : List PyData} (n : Nat), RepAll L vs ds → RepAll L (vs.drop n) (ds.drop n)
  | _, _, 0, r => r
  | _, _, _ + 1, .nil => .nil
  | _, _, n + 1, .cons _ rs => RepAll.drop n rs
theorem RepAll.reverse {vs : List V} {ds : List PyData} (r : RepAll L vs ds) : RepAll L vs.reverse ds.reverse := by
  induction ds generalizing vs with
  | nil => cases r; exact .nil
  | cons d ds ih =>
    cases r with
    | cons r rs => rw [List.reverse_cons, List.reverse_cons]; exact (ih rs).append (.cons r .nil)
theorem RepAll.set {v : V} {d : PyData} (r : Rep L v d) : ∀ {vs : List V} {ds : List PyData} (i : Nat), RepAll L vs ds → RepAll L (vs.set i v) (ds.set i d)
  | _, _, _, .nil => .nil
  | _, _, 0, .cons _ rs => .cons r rs
  | _, _, i + 1, .cons q rs => .cons q (RepAll.set r i rs)
theorem RepAll.rep {vs : List V} {ds : List PyData} (r : RepAll L vs ds) : ∀ k : Nat, RepAll L (List.replicate k vs).flatten (List.replicate k ds).flatten
  | 0 => .nil
  | k + 1 => by rw [List.replicate_succ, List.replicate_succ, List.flatten_cons, List.flatten_cons]; exact r.append (RepAll.rep r k)
theorem RepAll.dropLast {vs : List V} {ds : List PyData} (r : RepAll L vs ds) : RepAll L vs.dropLast ds.dropLast := by
  rw [List.dropLast_eq_take, List.dropLast_eq_take, r.length]; exact r.take _
theorem RepAll.ints (L : Addr → HO → Prop) : ∀ ns : List Int, RepAll L (ns.map V.int) (ns.map PyData.int)
  | [] => .nil
  | n :: ns => .cons (.int n) (RepAll.ints L ns)
theorem RepAll.of_bls : ∀ {ns : List Bool} {vs : List V}, RepAll L vs (ns.map PyData.bool) → vs = ns.map V.bl
  | [], _, .nil => rfl
  | _ :: _, _, .cons r rs => by cases r; rw [RepAll.of_bls rs]; rfl
theorem Rep.intV {v : V} {i : Int} (r : Rep L v (.int i)) : v = .int i := by cases r; rfl
theorem Rep.blV {v : V} {i : Bool} (r : Rep L v (.bool i)) : v = .bl i := by cases r; rfl
theorem Rep.strV {v : V} {i : Str} (r : Rep L v (.str i)) : v = .str i := by cases r; rfl
theorem Rep.lstV {v : V} {ds : List PyData} (r : Rep L v (.list ds)) : ∃ a xs, v = .ref a ∧ L a (.lst xs) ∧ RepAll L xs ds := by cases r with | lst e r => exact ⟨_, _, rfl, e, r⟩
theorem Rep.tupV {v : V} {ds : List PyData} (r : Rep L v (.tuple ds)) : ∃ a xs, v = .ref a ∧ L a (.tup xs) ∧ RepAll L xs ds := by cases r with | tup e r => exact ⟨_, _, rfl, e, r⟩
end
def LH (K : PySem.W.Frag) (H : Hp) (a : Addr) : HO → Prop
  | .lst xs => SqL K H a xs
  | .tup xs => SqT K H a xs
  | o => H a = some o
def LN (N : Hp) (a : Addr) (o : HO) : Prop := N a = some o
theorem Same.sqt {K : PySem.W.Frag} {H H' : Hp} {a : Addr} {xs : List V} (e : Same H H') (h : SqT K H a xs) : SqT K H' a xs := by
  rcases h with (h | ⟨o, h⟩) | h
  · exact .inl (.inl (e _ _ h))
  · exact .inl (.inr ⟨o, e _ _ h⟩)
  · exact .inr h
theorem LH.mono {K : PySem.W.Frag} {H H' : Hp} (e : Same H H') : ∀ a o, LH K H a o → LH K H' a o := fun a o h => by
  cases o <;> first | exact Same.seq e h | exact Same.sqt e h | exact e _ _ h
theorem LN.mono {N N' : Hp} (e : Same N N') : ∀ a o, LN N a o → LN N' a o := fun a o h => e a o h
theorem LN.toH {K : PySem.W.Frag} {N H : Hp} (e : Same N H) : ∀ a o, LN N a o → LH K H a o := fun a o h => by
  have h' : H a = some o := e _ _ h
  cases o <;> first | exact SqL.of h' | exact SqT.of h' | exact h'
/-- the part of B that is new over H0 -/
def nw (H0 B : Hp) : Hp := fun a => match H0 a with | none => B a | some _ => none
theorem nw_some {H0 B : Hp} {a : Addr} {o : HO} (h : nw H0 B a = some o) : H0 a = none ∧ B a = some o := by
  unfold nw at h; split at h
  · exact ⟨by assumption, h⟩
  · cases h
theorem nw_of {H0 B : Hp} {a : Addr} {o : HO} (h0 : H0 a = none) (h : B a = some o) : nw H0 B a = some o := by
  unfold nw; rw [h0]; exact h
theorem nw_same {H0 B : Hp} : Same (nw H0 B) B := fun _ _ h => (nw_some h).2
theorem nw_mono {H0 B B' : Hp} (e : Same B B') : Same (nw H0 B) (nw H0 B') := fun _ _ h => nw_of (nw_some h).1 (e _ _ (nw_some h).2)
/-- a def's entry: the heap, its part that is frozen -/
structure En where
  H : Hp
  B : Hp
  ea : Addr
  ec : Str → Prop
  so : Addr → BS.Mem → HO
  cl : Nat → Addr
  me : Addr
def LF (K : PySem.W.Frag) (H0 : En) (B : Hp) : Bool → Addr → HO → Prop
  | true => LN (nw H0.H B)
  | false => LH K B
section
variable {K : PySem.W.Frag} {H0 : En} {B B' H : Hp} {fr : Bool} {v : V} {d : PyData} {vs : List V} {ds : List PyData}
theorem LF.mono (e : Same B B') : ∀ a o, LF K H0 B fr a o → LF K H0 B' fr a o := fun a o h => by
  cases fr with
  | true => exact nw_mono e a o h
  | false => exact LH.mono e a o h
theorem LF.toH (e : Same B H) : ∀ a o, LF K H0 B fr a o → LH K H a o := fun a o h => by
  cases fr with
  | true => exact LN.toH (fun _ _ q => e _ _ (nw_same _ _ q)) a o h
  | false => exact LH.mono e a o h
theorem LF.and1 {fr' : Bool} : ∀ a o, LF K H0 B fr a o → LF K H0 B (fr && fr') a o := fun a o h => by
  cases fr with
  | false => exact h
  | true =>
    cases fr' with
    | true => exact h
    | false => exact LN.toH nw_same a o h
theorem LF.and2 {fr' : Bool} : ∀ a o, LF K H0 B fr a o → LF K H0 B (fr' && fr) a o := fun a o h => by
  rw [Bool.and_comm]; exact LF.and1 a o h
end
def scal : PyData → Bool
  | .none => true
  | .bool _ => true
  | .int _ => true
  | .str _ => true
  | _ => false
theorem Rep.scal {L L' : Addr → HO → Prop} {v : V} {d : PyData} (r : Rep L v d) (h : PL.scal d = true) : Rep L' v d := by
  cases r with
  | non => exact .non
  | bl b => exact .bl b
  | int i => exact .int i
  | str x => exact .str x
  | lst _ _ => cases h
  | tup _ _ => cases h
def vOf : PyData → V
  | .none => .non
  | .bool b => .bl b
  | .int i => .int i
  | .str x => .str x
  | _ => .non
theorem Rep.vOf {L : Addr → HO → Prop} {d : PyData} (h : PL.scal d = true) : Rep L (PL.vOf d) d := by
  cases d with
  | none => exact .non
  | bool b => exact .bl b
  | int i => exact .int i
  | str x => exact .str x
  | list _ => cases h
  | tuple _ => cases h
  | dict _ => cases h
/-- a value of a dict -/
inductive SV where
  | i (n : Int)
  | b (x : Bool)
def SV.v : SV → V
  | .i n => .int n
  | .b x => .bl x
def SV.d : SV → PyData
  | .i n => .int n
  | .b x => .bool x
/-- an exception of the class C at a -/
def ExK (B : Hp) (a C : Addr) : Prop := ∃ φ : Heap → Prop, (B a = some (.ext φ) ∨ ∃ oe, B a = some (.frz oe (.ext φ))) ∧ ∀ h, φ h → ∃ oe vs, h.get? a = some oe ∧ oe.cls = .ref C ∧ oe.dict = none ∧ oe.data = .fields vs
/-- .. made with the tuple at t -/
def ExT (B : Hp) (a t C : Addr) : Prop := ∃ φ : Heap → Prop, B a = some (.ext φ) ∧ ∀ h, φ h → ∃ oe vs, h.get? a = some oe ∧ oe.cls = .ref C ∧ oe.dict = none ∧ oe.data = .fields vs ∧ vs[0]? = some (.ref t)
theorem ExK.mono {B B' : Hp} {a C : Addr} (e : Same B B') : ExK B a C → ExK B' a C
  | ⟨φ, .inl h, k⟩ => ⟨φ, .inl (e _ _ h), k⟩
  | ⟨φ, .inr ⟨oe, h⟩, k⟩ => ⟨φ, .inr ⟨oe, e _ _ h⟩, k⟩
theorem ExT.mono {B B' : Hp} {a t C : Addr} (e : Same B B') : ExT B a t C → ExT B' a t C
  | ⟨φ, h, k⟩ => ⟨φ, e _ _ h, k⟩
theorem ExT.k {B : Hp} {a t C : Addr} : ExT B a t C → ExK B a C
  | ⟨φ, h, k⟩ => ⟨φ, .inl h, fun h' hh => let ⟨oe, vs, a1, a2, a3, a4, _⟩ := k h' hh; ⟨oe, vs, a1, a2, a3, a4⟩⟩
/-- owned things that change: a list of own lists, a dict with keys that are ints, tuples of ints -/
inductive CK where
  | nst (dss : List (List PyData))
  | dI (m : List (Int × SV))
  | dS (m : List (Str × SV))
  | dT (m : List (List Int × SV))
  | sT (fr : Bool) (ks : List (List Int))
  | obj (fr : Bool) (c : Nat) (fs : List (Str × PyData))
  | obm (fr : Bool) (c : Nat) (fs : List (Str × PyData))
  | exc (c : Nat)
  | exv (c : Nat) (m : Str)
  | exl (cs : List Nat) (m : Str)
def CelR (K : PySem.W.Frag) (H0 : En) (B N : Hp) (v : V) : CK → Prop
  | .nst dss => ∃ (p : Addr) (ps : List Addr), v = .ref p ∧ N p = some (.lst (ps.map V.ref)) ∧ p ∉ ps ∧ ps.Nodup ∧ ps.length = dss.length ∧ ∀ (i : Nat) q ds, ps[i]? = some q → dss[i]? = some ds → ∃ vs, N q = some (.lst vs) ∧ RepAll (LF K H0 B true) vs ds
  | .dI m => ∃ p, v = .ref p ∧ N p = some (.dK (m.map fun e => (.inl e.1, e.2.v)))
  | .dS m => ∃ p, v = .ref p ∧ N p = some (.dK (m.map fun e => (.inr e.1, e.2.v)))
  | .dT m => ∃ p, v = .ref p ∧ N p = some (.dT (m.map fun e => (e.1.map .inl, e.2.v)))
  | .sT fr ks => ∃ (p : Addr) (L : BS.Mem), v = .ref p ∧ N p = some (H0.so p L) ∧ (L.map (·.2)).Perm ks ∧ ∀ q ∈ L, LF K H0 B fr q.1 (.tup (q.2.map V.int))
  | .obj fr c fs => ∃ (p dx : Addr) (xs : List V), v = .ref p ∧ LF K H0 B fr p (.ins (H0.cl c) dx ((fs.map (·.1)).zip xs)) ∧ RepAll (LF K H0 B fr) xs (fs.map (·.2))
  | .obm fr c fs => ∃ (dx : Addr) (xs : List V), v = .ref H0.me ∧ N H0.me = some (.ins (H0.cl c) dx ((fs.map (·.1)).zip xs)) ∧ RepAll (LF K H0 B fr) xs (fs.map (·.2))
  | .exc c => ∃ a, v = .ref a ∧ ExK B a (H0.cl c)
  | .exv c m => ∃ a t, v = .ref a ∧ ExT B a t (H0.cl c) ∧ B t = some (.tup [.str m])
  | .exl cs m => ∃ (p : Addr) (as : List Addr), v = .ref p ∧ B p = some (.lst (as.map V.ref)) ∧ as.length = cs.length ∧ ∀ (i : Nat) a c, as[i]? = some a → cs[i]? = some c → ∃ t, ExT B a t (H0.cl c) ∧ B t = some (.tup [.str m])
theorem CelR.mono {K : PySem.W.Frag} {H0 : En} {B B' N : Hp} {v : V} {k : CK} (e : Same B B') (h : CelR K H0 B N v k) : CelR K H0 B' N v k := by
  cases k with
  | nst dss =>
    obtain ⟨p, ps, h1, h2, h3, h4, h5, h6⟩ := h
    exact ⟨p, ps, h1, h2, h3, h4, h5, fun i q ds a b => let ⟨vs, c, d⟩ := h6 i q ds a b; ⟨vs, c, d.mono (LF.mono e)⟩⟩
  | dI m => obtain ⟨p, h1, h2⟩ := h; exact ⟨p, h1, h2⟩
  | dS m => obtain ⟨p, h1, h2⟩ := h; exact ⟨p, h1, h2⟩
  | dT m => obtain ⟨p, h1, h2⟩ := h; exact ⟨p, h1, h2⟩
  | sT fr ks => obtain ⟨p, L, h1, h2, h3, h4⟩ := h; exact ⟨p, L, h1, h2, h3, fun q hq => LF.mono e _ _ (h4 q hq)⟩
  | obj fr c fs => obtain ⟨p, dx, xs, h1, h2, h3⟩ := h; exact ⟨p, dx, xs, h1, LF.mono e _ _ h2, h3.mono (LF.mono e)⟩
  | obm fr c fs => obtain ⟨dx, xs, h1, h2, h3⟩ := h; exact ⟨dx, xs, h1, h2, h3.mono (LF.mono e)⟩
  | exc c => obtain ⟨a, h1, h2⟩ := h; exact ⟨a, h1, h2.mono e⟩
  | exv c m => obtain ⟨a, t, h1, h2, h3⟩ := h; exact ⟨a, t, h1, h2.mono e, e _ _ h3⟩
  | exl cs m => obtain ⟨p, as, h1, h2, h3, h4⟩ := h; exact ⟨p, as, h1, e _ _ h2, h3, fun i a c g1 g2 => let ⟨t, a1, a2⟩ := h4 i a c g1 g2; ⟨t, a1.mono e, e _ _ a2⟩⟩
inductive Sl where
  | und
  | val (fr : Bool) (d : PyData)
  | own (fr : Bool) (ds : List PyData)
  | full (d : PyData)
  | bor (fr : Bool) (ds : List PyData)
  | brf (d : PyData)
  | exn (n : Str)
  | cel (k : CK)
inductive Rs where
  | ok (s : Sl)
  | ex (nm : Str)
abbrev Ev := List Sl
abbrev EF := Ev → Option Rs
def mkv (fr : Bool) (d : PyData) : Sl := .val (fr || scal d) d
def frz : Sl → Sl
  | .own fr ds => .val fr (.list ds)
  | .full d => .val true d
  | .cel _ => .und
  | s => s
/-- the data of a frozen or borrowed result -/
def dat : Sl → Option PyData
  | .val _ d => some d
  | .bor _ ds => some (.list ds)
  | .brf d => some d
  | _ => none
def bz (r : Option Rs) (k : Sl → Option Rs) : Option Rs :=
  match r with
  | some (.ok s) => k (frz s)
  | some (.ex n) => some (.ex n)
  | none => none
def emp : Hp := fun _ => none
structure Nx (B H B' H' : Hp) : Prop where
  b : Same B B'
  bh : Same B' H'
  h : Same H H'
  no : ∀ a, B a = none → H a ≠ none → B' a = none
theorem Nx.refl {B H : Hp} (e : Same B H) : Nx B H B H := ⟨Same.refl _, e, Same.refl _, fun _ h _ => h⟩
theorem Nx.trans {B H B1 H1 B2 H2 : Hp} (a : Nx B H B1 H1) (b : Nx B1 H1 B2 H2) : Nx B H B2 H2 :=
  ⟨a.b.trans b.b, b.bh, a.h.trans b.h, fun c h1 h2 => b.no c (a.no c h1 h2) (fun z => by
    cases q : H c with
    | none => exact h2 q
    | some o => rw [a.h c o q] at z; cases z)⟩
theorem Same.ne {H H' : Hp} (e : Same H H') {a : Addr} (h : H a ≠ none) : H' a ≠ none := fun z => by
  cases q : H a with
  | none => exact h q
  | some o => rw [e a o q] at z; cases z
theorem Same.none {H H' : Hp} (e : Same H H') {a : Addr} (h : H' a = none) : H a = none := e.free h
theorem same_upd {H : Hp} {p : Addr} {o : HO} (h : H p = none) : Same H (upd H p o) := fun b x e => by
  rw [upd_ne (ne_of_none e h)]; exact e
theorem same_upd2 {B H : Hp} {p : Addr} {o : HO} (e : Same B H) (h : H p = some o) : Same (upd B p o) H := fun b x q => by
  by_cases hb : b = p
  · subst hb; rw [upd_same] at q; cases q; exact h
  · rw [upd_ne hb] at q; exact e _ _ q
/-- a temporary's own cells -/
structure TF (H B' H' T : Hp) : Prop where
  s : Same T H'
  n : ∀ a, T a ≠ none → H a = none ∧ B' a = none
theorem TF.emp {H B' H' : Hp} : TF H B' H' emp := ⟨fun _ _ h => (nomatch h), fun _ h => absurd rfl h⟩
/-- results -/
def RR (K : PySem.W.Frag) (H0 : En) (B H T : Hp) (v : V) : Sl → Prop
  | .und => True
  | .val fr d => Rep (LF K H0 B fr) v d
  | .own fr ds => ∃ p vs, v = .ref p ∧ T p = some (.lst vs) ∧ RepAll (LF K H0 B fr) vs ds
  | .full d => Rep (LN T) v d
  | .bor fr ds => ∃ p vs, v = .ref p ∧ H p = some (.lst vs) ∧ RepAll (LF K H0 B fr) vs ds
  | .brf d => Rep (LN H) v d
  | .exn _ => False
  | .cel k => CelR K H0 B T v k
/-- frozen or borrowed -/
def RZ (K : PySem.W.Frag) (H0 : En) (B H : Hp) (v : V) : Sl → Prop
  | .val fr d => Rep (LF K H0 B fr) v d
  | .bor fr ds => ∃ p vs, v = .ref p ∧ H p = some (.lst vs) ∧ RepAll (LF K H0 B fr) vs ds
  | .brf d => Rep (LN H) v d
  | .und => True
  | .cel k => CelR K H0 B (fun _ => none) v k
  | _ => False
def KQ (K : PySem.W.Frag) (H0 : En) (B H : Hp) (s : Sl) (Q : VK) : Prop := ∀ v B' H' T, Nx B H B' H' → TF H B' H' T → RR K H0 B' H' T v s → Q v H'
def KZ (K : PySem.W.Frag) (H0 : En) (B H : Hp) (s : Sl) (Q : VK) : Prop := ∀ v B' H', Nx B H B' H' → RZ K H0 B' H' v s → Q v H'
theorem RZ.data {K : PySem.W.Frag} {H0 : En} {B H : Hp} {v : V} {s : Sl} {d : PyData} (e : Same B H) (r : RZ K H0 B H v s) (h : dat s = some d) : Rep (LH K H) v d := by
  cases s with
  | und => cases h
  | own fr ds => cases h
  | full d => cases h
  | val fr d' => cases h; exact Rep.mono (LF.toH e) r
  | bor fr ds =>
    cases h
    obtain ⟨p, vs, rfl, h1, h2⟩ := r
    exact .lst (SqL.of h1) (h2.mono (LF.toH e))
  | brf d' => cases h; exact Rep.mono (LN.toH (Same.refl _)) r
  | exn n => cases h
  | cel k => cases h
theorem RZ.mono {K : PySem.W.Frag} {H0 : En} {B H B' H' : Hp} {v : V} {s : Sl} (n : Nx B H B' H') (r : RZ K H0 B H v s) : RZ K H0 B' H' v s := by
  cases s with
  | und => exact r
  | own fr ds => exact r
  | full d => exact r
  | val fr d => exact Rep.mono (LF.mono n.b) r
  | bor fr ds =>
    obtain ⟨p, vs, e, h1, h2⟩ := r
    exact ⟨p, vs, e, n.h _ _ h1, h2.mono (LF.mono n.b)⟩
  | brf d => exact Rep.mono (LN.mono n.h) r
  | exn n => exact r
  | cel k => exact CelR.mono n.b r
end PL
namespace PL
open PySem PySem.Spec PyProof.Rows L2
def SR (K : PySem.W.Frag) (H0 : En) (B N : Hp) (o : Option (Option V)) : Sl → Prop
  | .und => True
  | .val fr d => ∃ v, o = some (some v) ∧ Rep (LF K H0 B fr) v d
  | .own fr ds => ∃ p vs, o = some (some (.ref p)) ∧ N p = some (.lst vs) ∧ RepAll (LF K H0 B fr) vs ds
  | .full d => ∃ v, o = some (some v) ∧ Rep (LN N) v d
  | .exn n => o = some (some (.ref H0.ea)) ∧ H0.ec n
  | .cel k => ∃ v, o = some (some v) ∧ CelR K H0 B N v k
  | _ => False
theorem SR.mono {K : PySem.W.Frag} {H0 : En} {B B' N : Hp} {o : Option (Option V)} {s : Sl} (e : Same B B') (h : SR K H0 B N o s) : SR K H0 B' N o s := by
  cases s with
  | und => trivial
  | val fr d => obtain ⟨v, h1, h2⟩ := h; exact ⟨v, h1, h2.mono (LF.mono e)⟩
  | own fr ds => obtain ⟨p, vs, h1, h2, h3⟩ := h; exact ⟨p, vs, h1, h2, h3.mono (LF.mono e)⟩
  | full d => exact h
  | bor fr ds => exact h
  | brf d => exact h
  | exn n => exact h
  | cel k => obtain ⟨v, h1, h2⟩ := h; exact ⟨v, h1, h2.mono e⟩
/-- F i: the cells that slot i owns -/
abbrev FF (K : PySem.W.Frag) (H0 : En) (B H : Hp) (σ : L2.St) (ρ : Ev) (F : Nat → Hp) : Prop :=
  (∀ i, Same (F i) H) ∧ (∀ i a, F i a ≠ none → B a = none ∧ H0.H a = none) ∧ (∀ i j a, i ≠ j → F i a ≠ none → F j a = none) ∧ ∀ i s, ρ[i]? = some s → SR K H0 B (F i) σ[i]? s
structure ER (K : PySem.W.Frag) (H0 : En) (B H : Hp) (σ : L2.St) (ρ : Ev) : Prop where
  e0 : Same H0.H H
  b0 : Same H0.B B
  n0 : ∀ a, H0.H a ≠ none → H0.B a = none → B a = none
  eB : Same B H
  len : σ.length = ρ.length
  ex : ∃ F : Nat → Hp, FF K H0 B H σ ρ F
section
variable {K : PySem.W.Frag} {H0 : En} {B H B' H' T : Hp} {σ : L2.St} {ρ : Ev}
theorem ER.nx (E : ER K H0 B H σ ρ) (n : Nx B H B' H') : ER K H0 B' H' σ ρ := by
  obtain ⟨F, f1, f2, f3, f4⟩ := E.ex
  refine ⟨E.e0.trans n.h, E.b0.trans n.b, fun a h1 h2 => n.no a (E.n0 a h1 h2) (PL.Same.ne E.e0 h1), n.bh, E.len, F, fun i => (f1 i).trans n.h, fun i a h => ⟨n.no a (f2 i a h).1 (PL.Same.ne (f1 i) h), (f2 i a h).2⟩, f3, fun i s h => (f4 i s h).mono n.b⟩
theorem FF.nx {F : Nat → Hp} (h : FF K H0 B H σ ρ F) (n : Nx B H B' H') : FF K H0 B' H' σ ρ F :=
  ⟨fun i => (h.1 i).trans n.h, fun i a q => ⟨n.no a (h.2.1 i a q).1 (PL.Same.ne (h.1 i) q), (h.2.1 i a q).2⟩, h.2.2.1, fun i s q => (h.2.2.2 i s q).mono n.b⟩
theorem FF.forget {F : Nat → Hp} (h : FF K H0 B H σ ρ F) {i : Nat} (o : Option V) : FF K H0 B H (σ.set i o) (ρ.set i .und) F := by
  refine ⟨h.1, h.2.1, h.2.2.1, fun j u hu => ?_⟩
  by_cases hj : j = i
  · subst hj
    have hl : j < ρ.length := by have := (List.getElem?_eq_some_iff.mp hu).1; rwa [List.length_set] at this
    rw [List.getElem?_set_self hl] at hu
    have hu' := Option.some.inj hu
    subst hu'
    trivial
  · rw [List.getElem?_set_ne (Ne.symm hj)] at hu
    rw [List.getElem?_set_ne (Ne.symm hj)]
    exact h.2.2.2 j u hu
theorem ER.nx0 (E : ER K H0 B H σ ρ) : Nx B H B H := Nx.refl E.eB
/-- may be stored -/
def stb : Sl → Bool
  | .bor _ _ => false
  | .brf _ => false
  | _ => true
/-- a slot is stored -/
theorem ER.set {i : Nat} {v : V} {s : Sl} (E : ER K H0 B H σ ρ) (n : Nx B H B' H') (t : TF H B' H' T) (r : RR K H0 B' H' T v s) (hs : stb s = true) : ER K H0 B' H' (σ.set i (some v)) (ρ.set i s) := by
  have E' := E.nx n
  obtain ⟨F, f1, f2, f3, f4⟩ := E.ex
  have tn : ∀ j a, F j a ≠ none → T a = none := fun j a h => by
    cases q : T a with
    | none => rfl
    | some o => exact absurd ((t.n a (by rw [q]; simp)).1) (PL.Same.ne (f1 j) h)
  refine ⟨E'.e0, E'.b0, E'.n0, E'.eB, by rw [List.length_set, List.length_set]; exact E.len, fun j => if j = i then T else F j, fun j => ?_, fun j a h => ?_, fun j k a hjk h => ?_, fun j u hu => ?_⟩
  · dsimp only
    split
    · exact t.s
    · exact (f1 j).trans n.h
  · dsimp only at h
    split at h
    · exact ⟨(t.n a h).2, E.e0.free (t.n a h).1⟩
    · exact ⟨n.no a (f2 j a h).1 (PL.Same.ne (f1 j) h), (f2 j a h).2⟩
  · dsimp only at h ⊢
    split at h
    · rw [if_neg (by omega)]
      cases q : F k a with
      | none => rfl
      | some o => exact absurd ((t.n a h).1) (PL.Same.ne (f1 k) (by rw [q]; simp))
    · split
      · exact tn j a h
      · exact f3 j k a hjk h
  · dsimp only
    by_cases hj : j = i
    · subst hj
      have hl : j < ρ.length := by have := (List.getElem?_eq_some_iff.mp hu).1; rwa [List.length_set] at this
      rw [List.getElem?_set_self hl] at hu
      have hu' := Option.some.inj hu
      subst hu'
      rw [if_pos rfl, List.getElem?_set_self (by rw [E.len]; exact hl)]
      cases s with
      | und => trivial
      | val fr d => exact ⟨v, rfl, r⟩
      | own fr ds => obtain ⟨p, vs, rfl, h1, h2⟩ := r; exact ⟨p, vs, rfl, h1, h2⟩
      | full d => exact ⟨v, rfl, r⟩
      | bor fr ds => cases hs
      | brf d => cases hs
      | exn n => exact r.elim
      | cel k => exact ⟨v, rfl, r⟩
    · rw [List.getElem?_set_ne (Ne.symm hj)] at hu
      rw [if_neg hj, List.getElem?_set_ne (Ne.symm hj)]
      exact (f4 j u hu).mono n.b
/-- slots are forgotten -/
theorem ER.forget {i : Nat} (E : ER K H0 B H σ ρ) (o : Option V) : ER K H0 B H (σ.set i o) (ρ.set i .und) := by
  obtain ⟨F, f1, f2, f3, f4⟩ := E.ex
  refine ⟨E.e0, E.b0, E.n0, E.eB, by rw [List.length_set, List.length_set]; exact E.len, F, f1, f2, f3, fun j u hu => ?_⟩
  by_cases hj : j = i
  · subst hj
    have hl : j < ρ.length := by have := (List.getElem?_eq_some_iff.mp hu).1; rwa [List.length_set] at this
    rw [List.getElem?_set_self hl] at hu
    cases hu
    trivial
  · rw [List.getElem?_set_ne (Ne.symm hj)] at hu
    rw [List.getElem?_set_ne (Ne.symm hj)]
    exact f4 j u hu
def wipeE (ρ : Ev) : List Nat → Ev
  | [] => ρ
  | i :: r => (wipeE ρ r).set i .und
theorem ER.wipe (E : ER K H0 B H σ ρ) : ∀ vs : List Nat, ER K H0 B H (L2.wipe σ vs) (wipeE ρ vs) := by
  intro vs
  induction vs with
  | nil => exact E
  | cons i r ih => exact ih.forget (i := i) none
theorem FF.wipe {F : Nat → Hp} (h : FF K H0 B H σ ρ F) : ∀ vs : List Nat, FF K H0 B H (L2.wipe σ vs) (wipeE ρ vs) F
  | [] => h
  | _ :: vs => (FF.wipe h vs).forget none
theorem wipeE_len (ρ : Ev) : ∀ vs : List Nat, (wipeE ρ vs).length = ρ.length
  | [] => rfl
  | _ :: vs => by unfold wipeE; rw [List.length_set, wipeE_len ρ vs]
def un (B T : Hp) : Hp := fun a => match B a with | some o => some o | none => T a
theorem KZ.toQ {s : Sl} {Q : VK} (e0 : Same H0.H H) (eB : Same B H) (h : KZ K H0 B H (frz s) Q) : KQ K H0 B H s Q := by
  intro v B' H' T n t r
  have h0 : ∀ a, T a ≠ none → H0.H a = none := fun a q => e0.free ((t.n a q).1)
  cases s with
  | und => exact h v B' H' n trivial
  | val fr d => exact h v B' H' n r
  | bor fr ds => exact h v B' H' n r
  | brf d => exact h v B' H' n r
  | exn n => exact r.elim
  | cel k => exact h v B' H' n trivial
  | own fr ds =>
    obtain ⟨p, vs, rfl, hp, ra⟩ := r
    have hTp : T p ≠ none := by rw [hp]; simp
    obtain ⟨g1, g2⟩ := t.n p hTp
    have hH' : H' p = some (.lst vs) := t.s _ _ hp
    have s1 : Same B' (upd B' p (.lst vs)) := same_upd g2
    refine h (.ref p) (upd B' p (.lst vs)) H' ⟨n.b.trans s1, same_upd2 n.bh hH', n.h, fun a q1 q2 => ?_⟩ ?_
    · have : a ≠ p := fun z => by subst z; exact q2 g1
      rw [upd_ne this]; exact n.no a q1 q2
    · show Rep (LF K H0 _ fr) _ _
      refine .lst ?_ (ra.mono (LF.mono s1))
      cases fr with
      | true => exact nw_of (h0 p hTp) upd_same
      | false => exact SqL.of upd_same
  | full d =>
    have g : ∀ a o, T a = some o → B' a = none := fun a o q => (t.n a (by rw [q]; simp)).2
    have sT : Same T (un B' T) := fun a o q => by unfold un; rw [g a o q]; exact q
    have sB : Same B' (un B' T) := fun a o q => by unfold un; rw [q]
    refine h v (un B' T) H' ⟨n.b.trans sB, fun a o q => ?_, n.h, fun a q1 q2 => ?_⟩ ?_
    · unfold un at q
      cases z : B' a with
      | some u => rw [z] at q; cases q; exact n.bh _ _ z
      | none => rw [z] at q; exact t.s _ _ q
    · unfold un
      rw [n.no a q1 q2]
      cases z : T a with
      | none => rfl
      | some u => exact absurd ((t.n a (by rw [z]; simp)).1) q2
    · show Rep (LF K H0 _ true) _ _
      exact Rep.mono (fun a o q => nw_of (h0 a (by rw [show T a = some o from q]; simp)) (sT a o q)) r
end
def KX (mg : Str → Option Value) (B H : Hp) (σ : L2.St) (W : WX) (n : Str) : Prop := ∀ c B' H', mg n = some c → Nx B H B' H' → W c none σ H'
theorem KX.nx {mg : Str → Option Value} {B H B' H' : Hp} {σ : L2.St} {W : WX} {n : Str} (h : KX mg B H σ W n) (x : Nx B H B' H') : KX mg B' H' σ W n := fun c B2 H2 hc y => h c B2 H2 hc (x.trans y)
/-- the outcome o, wanted by Q or by W -/
def OK (K : PySem.W.Frag) (mg : Str → Option Value) (H0 : En) (W : WX) (B H : Hp) (σ : L2.St) (o : Option Rs) (Q : VK) : Prop :=
  (∃ s, o = some (.ok s) ∧ KQ K H0 B H s Q) ∨ ∃ n, o = some (.ex n) ∧ KX mg B H σ W n
def OKZ (K : PySem.W.Frag) (mg : Str → Option Value) (H0 : En) (W : WX) (B H : Hp) (σ : L2.St) (o : Option Rs) (Q : VK) : Prop :=
  (∃ s, o = some (.ok s) ∧ KZ K H0 B H (frz s) Q) ∨ ∃ n, o = some (.ex n) ∧ KX mg B H σ W n
def tP (K : PySem.W.Frag) (mg : Str → Option Value) (H0 : En) (W : WX) (f : EF) : TE := fun σ H Q =>
  ∃ B ρ, ER K H0 B H σ ρ ∧ OK K mg H0 W B H σ (f ρ) Q
def tZ (K : PySem.W.Frag) (mg : Str → Option Value) (H0 : En) (W : WX) (f : EF) : TE := fun σ H Q =>
  ∃ B ρ, ER K H0 B H σ ρ ∧ OKZ K mg H0 W B H σ (f ρ) Q
/-- e is f, over the entry's heap H0; what it raises is taken by W -/
structure PD (X : Cx) (H0 : En) (W : WX) (e : Expr) (f : EF) : Prop where
  pe : PE X e (tP X.K X.mg H0 W f)
theorem peWeak {X : Cx} {e : Expr} {t t' : TE} (h : PE X e t) (i : ∀ σ H Q, t' σ H Q → t σ H Q) : PE X e t' := ⟨fun pins s σ H Q I q => h.run pins s σ H Q I (i σ H Q q)⟩
theorem ptWeak {X : Cx} {e : Expr} {t t' : TT} (h : PT X e t) (i : ∀ σ H Q, t' σ H Q → t σ H Q) : PT X e t' := ⟨fun pins s σ H Q I q => h.run pins s σ H Q I (i σ H Q q)⟩
theorem paWeak {X : Cx} {e : List Expr} {t t' : TA} (h : PA X e t) (i : ∀ σ H Q, t' σ H Q → t σ H Q) : PA X e t' := ⟨fun pos pins s σ H Q I q => h.run pos pins s σ H Q I (i σ H Q q)⟩
theorem psWeak {X : Cx} {e : Stmt} {t t' : TS} (h : PS X e t) (i : ∀ D σ H, t' D σ H → t D σ H) : PS X e t' := ⟨fun pins s σ H D I q => h.run pins s σ H D I (i D σ H q)⟩
theorem pssWeak {X : Cx} {e : List Stmt} {t t' : TS} (h : PSs X e t) (i : ∀ D σ H, t' D σ H → t D σ H) : PSs X e t' := ⟨fun pins s σ H D I q => h.run pins s σ H D I (i D σ H q)⟩
theorem piWeak {X : Cx} {tg e : Expr} {t t' : TI} (h : PI X tg e t) (i : ∀ σ H R, t' σ H R → t σ H R) : PI X tg e t' := ⟨fun pins s σ H R I q => h.run pins s σ H R I (i σ H R q)⟩
section
variable {X : Cx} {H0 : En} {W : WX} {e a b c : Expr} {f g k : EF}
theorem PD.z (h : PD X H0 W e f) : PE X e (tZ X.K X.mg H0 W f) := peWeak h.pe fun σ H Q ⟨B, ρ, E, r⟩ => ⟨B, ρ, E, by
  rcases r with ⟨s, h1, h2⟩ | ⟨n, h1, h2⟩
  · exact .inl ⟨s, h1, h2.toQ E.e0 E.eB⟩
  · exact .inr ⟨n, h1, h2⟩⟩
variable {K : PySem.W.Frag} {B H B' H' : Hp} {Q : VK} {σ : L2.St} {ρ : Ev}
theorem KQ.nx {s : Sl} (h : KQ K H0 B H s Q) (n : Nx B H B' H') : KQ K H0 B' H' s Q := fun v B2 H2 T n2 t r => h v B2 H2 T (n.trans n2) ⟨t.s, fun a q => ⟨n.h.free (t.n a q).1, (t.n a q).2⟩⟩ r
theorem KQ.same {v : V} {s : Sl} (h : KQ K H0 B H s Q) (e : Same B H) (r : RR K H0 B H emp v s) : Q v H := h v B H emp (Nx.refl e) TF.emp r
theorem KQ.int {i : Int} {fr : Bool} (h : KQ K H0 B H (.val fr (.int i)) Q) (e : Same B H) : Q (.int i) H := h.same e (.int i)
theorem KQ.bl {i : Bool} {fr : Bool} (h : KQ K H0 B H (.val fr (.bool i)) Q) (e : Same B H) : Q (.bl i) H := h.same e (.bl i)
theorem KQ.str {i : Str} {fr : Bool} (h : KQ K H0 B H (.val fr (.str i)) Q) (e : Same B H) : Q (.str i) H := h.same e (.str i)
theorem KQ.non {fr : Bool} (h : KQ K H0 B H (.val fr .none) Q) (e : Same B H) : Q .non H := h.same e .non
theorem KQ.new {fr : Bool} {ds : List PyData} {vs : List V} {p : Addr} (h : KQ K H0 B H (.own fr ds) Q) (e : Same B H) (r : RepAll (LF K H0 B fr) vs ds) (hp : H p = none) : Q (.ref p) (upd H p (.lst vs)) := by
  refine h (.ref p) B _ (fun a => if a = p then some (.lst vs) else none) ⟨Same.refl _, e.trans (same_upd hp), same_upd hp, fun _ q _ => q⟩ ⟨fun a o q => ?_, fun a q => ?_⟩ ⟨p, vs, rfl, if_pos rfl, r⟩
  · split at q
    · rename_i z; subst z; cases q; exact upd_same
    · cases q
  · split at q
    · rename_i z; subst z; exact ⟨hp, e.free hp⟩
    · exact absurd rfl q
theorem KQ.tup {fr : Bool} {ds : List PyData} {vs : List V} {p : Addr} (h : KQ K H0 B H (.val fr (.tuple ds)) Q) (e0 : Same H0.H H) (e : Same B H) (r : RepAll (LF K H0 B fr) vs ds) (hp : H p = none) : Q (.ref p) (upd H p (.tup vs)) := by
  have hB : B p = none := e.free hp
  have s1 : Same B (upd B p (.tup vs)) := same_upd hB
  refine h (.ref p) (upd B p (.tup vs)) _ emp ⟨s1, same_upd2 (e.trans (same_upd hp)) upd_same, same_upd hp, fun a q1 q2 => ?_⟩ TF.emp ?_
  · rw [upd_ne (fun z => by subst z; exact q2 hp)]; exact q1
  · show Rep (LF K H0 _ fr) _ _
    refine .tup ?_ (r.mono (LF.mono s1))
    cases fr with
    | true => exact nw_of (e0.free hp) upd_same
    | false => exact SqT.of upd_same
def eVar (i : Nat) : EF := fun ρ =>
  match ρ[i]? with
  | some (.val fr d) => some (.ok (.val fr d))
  | some (.own fr ds) => some (.ok (.bor fr ds))
  | some (.full d) => some (.ok (.brf d))
  | _ => none
theorem pdVar {i : Nat} (h : PE X e (tVar i)) : PD X H0 W e (eVar i) := ⟨peWeak h fun σ H Q ⟨B, ρ, E, r⟩ => by
  obtain ⟨F, f1, f2, f3, f4⟩ := E.ex
  rcases r with ⟨s, h1, h2⟩ | ⟨n, h1, h2⟩
  · unfold eVar at h1
    split at h1
    · rename_i fr d hr
      cases h1
      obtain ⟨v, e1, r1⟩ := f4 i _ hr
      exact ⟨v, e1, h2.same E.eB r1⟩
    · rename_i fr ds hr
      cases h1
      obtain ⟨p, vs, e1, e2, r1⟩ := f4 i _ hr
      exact ⟨_, e1, h2.same E.eB ⟨p, vs, rfl, f1 i _ _ e2, r1⟩⟩
    · rename_i d hr
      cases h1
      obtain ⟨v, e1, r1⟩ := f4 i _ hr
      exact ⟨v, e1, h2.same E.eB (Rep.mono (LN.mono (f1 i)) r1)⟩
    · cases h1
  · unfold eVar at h1
    split at h1 <;> cases h1⟩
def eC (d : PyData) : EF := fun _ => some (.ok (.val true d))
theorem pdC {v : V} {d : PyData} (h : PE X e (tC v)) (r : ∀ L, Rep L v d) : PD X H0 W e (eC d) := ⟨peWeak h fun σ H Q ⟨B, ρ, E, q⟩ => by
  rcases q with ⟨s, h1, h2⟩ | ⟨n, h1, h2⟩
  · cases h1
    exact h2.same E.eB (r _)
  · cases h1⟩
theorem pdInt {i : Int} {j pos} : PD X H0 W (.Constant (.int i) j pos) (eC (.int i)) := pdC pe_int fun _ => .int i
theorem pdBl {i : Bool} {j pos} : PD X H0 W (.Constant (.bool i) j pos) (eC (.bool i)) := pdC pe_bl fun _ => .bl i
theorem pdStr {i : Str} {j pos} : PD X H0 W (.Constant (.str i) j pos) (eC (.str i)) := pdC pe_str fun _ => .str i
def Op2 (X : Cx) (H0 : En) (r : R2) (f : Sl → Sl → Option Sl) : Prop := ∀ (B H : Hp) (x y : Sl) (v w : V) (s : Sl) (Q : VK), Same H0.H H → Same B H → RZ X.K H0 B H v x → RZ X.K H0 B H w y → f x y = some s → KQ X.K H0 B H s Q → r v w H Q
def okO (o : Option Sl) : Option Rs := o.map .ok
def e2 (f : Sl → Sl → Option Sl) (a b : EF) : EF := fun ρ => bz (a ρ) fun x => bz (b ρ) fun y => okO (f x y)
theorem okO_ok {o : Option Sl} {s : Sl} (h : okO o = some (.ok s)) : o = some s := by
  cases o with
  | none => cases h
  | some u => cases h; rfl
theorem okO_ex {o : Option Sl} {n : Str} (h : okO o = some (.ex n)) : False := by
  cases o with
  | none => cases h
  | some u => cases h
theorem OK.nx {mg : Str → Option Value} {o : Option Rs} (h : OK K mg H0 W B H σ o Q) (n : Nx B H B' H') : OK K mg H0 W B' H' σ o Q := by
  rcases h with ⟨s, h1, h2⟩ | ⟨m, h1, h2⟩
  · exact .inl ⟨s, h1, h2.nx n⟩
  · exact .inr ⟨m, h1, h2.nx n⟩
/-- the operand is run, then what follows -/
theorem OK.bz {mg : Str → Option Value} {r : Option Rs} {k : Sl → Option Rs} {R : VK} (h : OK K mg H0 W B H σ (PL.bz r k) Q)
    (c : ∀ (x : Sl) (v : V) (B' H' : Hp), Nx B H B' H' → RZ K H0 B' H' v x → OK K mg H0 W B' H' σ (k x) Q → R v H') : OKZ K mg H0 W B H σ r R := by
  cases r with
  | none => rcases h with ⟨s, h1, h2⟩ | ⟨m, h1, h2⟩ <;> cases h1
  | some o =>
    cases o with
    | ok x => exact .inl ⟨x, rfl, fun v B' H' n rz => c (frz x) v B' H' n rz (OK.nx h n)⟩
    | ex m =>
      rcases h with ⟨s, h1, h2⟩ | ⟨m', h1, h2⟩
      · cases h1
      · cases h1; exact .inr ⟨m, rfl, h2⟩
theorem OK.okO {mg : Str → Option Value} {o : Option Sl} (h : OK K mg H0 W B H σ (PL.okO o) Q) : ∃ s, o = some s ∧ KQ K H0 B H s Q := by
  rcases h with ⟨s, h1, h2⟩ | ⟨m, h1, h2⟩
  · exact ⟨s, okO_ok h1, h2⟩
  · exact (okO_ex h1).elim
/-- two operands -/
theorem pd2 {r : R2} {F : Sl → Sl → Option Sl} (ha : PD X H0 W a f) (hb : PD X H0 W b g) (ho : Op2 X H0 r F) (hp : ∀ {ta tb : TE}, PE X a ta → PE X b tb → PE X e (tOp r ta tb)) : PD X H0 W e (e2 F f g) := ⟨peWeak (hp ha.z hb.z) fun σ H Q ⟨B, ρ, E, q⟩ => by
  refine ⟨B, ρ, E, OK.bz q fun x v B1 H1 n1 r1 q1 => ?_⟩
  have E1 := E.nx n1
  refine ⟨B1, ρ, E1, OK.bz q1 fun y w B2 H2 n2 r2 q2 => ?_⟩
  have E2 := E1.nx n2
  obtain ⟨s, h1, h2⟩ := OK.okO q2
  exact ho B2 H2 x y v w s Q E2.e0 E2.eB (r1.mono n2) r2 h1 h2⟩
/-- one operand -/
def Op1 (X : Cx) (H0 : En) (r : V → Hp → VK → Prop) (f : Sl → Option Sl) : Prop := ∀ (B H : Hp) (x : Sl) (v : V) (s : Sl) (Q : VK), Same H0.H H → Same B H → RZ X.K H0 B H v x → f x = some s → KQ X.K H0 B H s Q → r v H Q
def e1 (f : Sl → Option Sl) (a : EF) : EF := fun ρ => PL.bz (a ρ) fun x => PL.okO (f x)
theorem pd1 {r : V → Hp → VK → Prop} {F : Sl → Option Sl} (ha : PD X H0 W a f) (ho : Op1 X H0 r F) (hp : ∀ {ta : TE}, PE X a ta → PE X e (tUn r ta)) : PD X H0 W e (e1 F f) := ⟨peWeak (hp ha.z) fun σ H Q ⟨B, ρ, E, q⟩ => by
  refine ⟨B, ρ, E, OK.bz q fun x v B1 H1 n1 r1 q1 => ?_⟩
  have E1 := E.nx n1
  obtain ⟨s, h1, h2⟩ := OK.okO q1
  exact ho B1 H1 x v s Q E1.e0 E1.eB r1 h1 h2⟩
end
end PL
namespace PL
open PySem PySem.Spec PyProof.Rows L2
section
variable {X : Cx} {pins : List (Addr × Obj)} {σ : L2.St} {H : Hp} {s : Shared}
mutual
theorem Rep.dp {K : PySem.W.Frag} {H : Hp} : ∀ {v : V} {d : PyData}, Rep (LH K H) v d → Dp K H v d
  | _, _, .non => .non
  | _, _, .bl b => .bl b
  | _, _, .int i => .int i
  | _, _, .str x => .str x
  | _, _, .lst e r => .lst e (RepAll.dp r)
  | _, _, .tup e r => .tup e (RepAll.dp r)
theorem RepAll.dp {K : PySem.W.Frag} {H : Hp} : ∀ {vs : List V} {ds : List PyData}, RepAll (LH K H) vs ds → DpAll K H vs ds
  | _, _, .nil => .nil
  | _, _, .cons r rs => .cons (Rep.dp r) (RepAll.dp rs)
end
theorem Rep.reads {d : PyData} {v : V} {u : Value} (I : Inv X pins σ H s) (r : Rep (LH X.K H) v d) (rv : RelV v u) : ∃ as, Reads s.heap u d as := Dp.reads I d v u r.dp rv
theorem RepAll.reads {ds : List PyData} {vs : List V} {us : List Value} (I : Inv X pins σ H s) (r : RepAll (LH X.K H) vs ds) (rv : Vals vs us) : ∃ as, ReadsAll s.heap us ds as := Dp.readsAll I ds vs us r.dp rv
mutual
theorem Rep.plain {L : Addr → HO → Prop} : ∀ {v : V} {d : PyData}, Rep L v d → d.plain = true
  | _, _, .non => rfl
  | _, _, .bl b => rfl
  | _, _, .int i => rfl
  | _, _, .str x => rfl
  | _, _, .lst e r => by simp only [PyData.plain]; exact RepAll.plain r
  | _, _, .tup e r => by simp only [PyData.plain]; exact RepAll.plain r
theorem RepAll.plain {L : Addr → HO → Prop} : ∀ {vs : List V} {ds : List PyData}, RepAll L vs ds → PyData.plainAll ds = true
  | _, _, .nil => rfl
  | _, _, .cons r rs => by simp only [PyData.plainAll, Rep.plain r, RepAll.plain rs, Bool.and_self]
end
end
/-- on data: f gives a scalar; the model's operation gives it too, at any heap where they read so -/
def DOp (X : Cx) (f : Value → Value → Sem Value) (g : PyData → PyData → Option PyData) : Prop :=
  ∀ (s : Shared) (u w : Value) (d e r : PyData) (as bs : List Addr) (Q : Value → Shared → Prop), Reads s.heap u d as → Reads s.heap w e bs → d.plain = true → e.plain = true → g d e = some r → scal r = true →
    (∀ z tk, RelV (vOf r) z → Q z { s with toks := tk }) → wpAny (model X.prog X.w) X.A (f u w) Q X.xe s
def rD (K : PySem.W.Frag) (g : PyData → PyData → Option PyData) : R2 := fun x y H Q => ∃ d e r, Rep (LH K H) x d ∧ Rep (LH K H) y e ∧ g d e = some r ∧ scal r = true ∧ Q (vOf r) H
theorem DOp.op {X : Cx} {f : Value → Value → Sem Value} {g : PyData → PyData → Option PyData} (h : DOp X f g) : OpR X f (rD X.K g) := by
  intro pins s σ H x y v u Q I rx ry ⟨d, e, r, h1, h2, h3, h4, q⟩
  obtain ⟨as, r1⟩ := h1.reads I rx
  obtain ⟨bs, r2⟩ := h2.reads I ry
  exact h s v u d e r as bs _ r1 r2 h1.plain h2.plain h3 h4 fun z tk hz => ⟨_, H, I.tok tk, hz, q⟩
/-- a data function as one on results -/
def fD (g : PyData → PyData → Option PyData) (x y : Sl) : Option Sl :=
  match dat x with
  | some d => match dat y with
    | some e => match g d e with
      | some r => if scal r = true then some (.val true r) else none
      | none => none
    | none => none
  | none => none
section
variable {X : Cx} {H0 : En} {W : WX} {e a b c : Expr} {f g k : EF} {pos : Pos}
theorem KQ.scal {K : PySem.W.Frag} {B H : Hp} {r : PyData} {Q : VK} (h : KQ K H0 B H (.val true r) Q) (e : Same B H) (hs : PL.scal r = true) : Q (vOf r) H := h.same e (Rep.vOf hs)
theorem op2D (g : PyData → PyData → Option PyData) : Op2 X H0 (rD X.K g) (fD g) := by
  intro B H x y v w s Q e0 eB r1 r2 hf hq
  unfold fD at hf
  split at hf
  · rename_i d hd
    split at hf
    · rename_i d' hd'
      split at hf
      · rename_i r hr
        split at hf
        · rename_i hs
          cases hf
          exact ⟨d, d', r, r1.data eB hd, r2.data eB hd', hr, hs, hq.scal eB hs⟩
        · cases hf
      · cases hf
    · cases hf
  · cases hf
theorem pdCmpD {op : CmpOp} {G : PyData → PyData → Option PyData} (h : DOp X (compareOp op) G) (ha : PD X H0 W a f) (hb : PD X H0 W b g) (hm : behindInMarks op b = false) : PD X H0 W (.Compare a [op] [b] pos) (e2 (fD G) f g) := pd2 ha hb (op2D G) fun pa pb => pe_cmpR h.op pa pb hm
end
/-- ints, and nothing else -/
def gI (c : Int → Int → Bool) (h : Int → Int → Int) (d e : PyData) : Option PyData :=
  match d, e with
  | .int i, .int j => if c i j = true then some (.int (h i j)) else none
  | _, _ => none
section
variable {X : Cx}
theorem dopI {f : Value → Value → Sem Value} {c : Int → Int → Bool} {h : Int → Int → Int} {C : Int → Int → Prop} (ho : OpR X f (rI C fun i j => .int (h i j))) (hc : ∀ i j, c i j = true → C i j) : OpR X f (rD X.K (gI c h)) := by
  intro pins s σ H x y v u Q I rx ry ⟨d, e, r, h1, h2, h3, h4, q⟩
  unfold gI at h3
  split at h3
  · rename_i i j
    split at h3
    · rename_i hcc
      cases h3
      exact ho pins s σ H x y v u Q I rx ry ⟨i, j, h1.intV, h2.intV, hc _ _ hcc, q⟩
    · cases h3
  · cases h3
theorem OpR.rI0 {f : Value → Value → Sem Value} {g : Int → Int → V} (h : OpR X f (rI0 g)) : OpR X f (rI (fun _ _ => True) g) := by
  intro pins s σ H x y v u Q I rx ry ⟨i, j, e1, e2, _, q⟩
  exact h pins s σ H x y v u Q I rx ry ⟨i, j, e1, e2, q⟩
end
def cT (_ _ : Int) : Bool := true
/-- what holds, as a Bool that no kernel unfolds -/
noncomputable def cd (p : Prop) : Bool := @decide p (Classical.propDecidable p)
theorem cd_true {p : Prop} (h : p) : cd p = true := @decide_eq_true p (Classical.propDecidable p) h
theorem cd_false {p : Prop} (h : ¬ p) : cd p = false := @decide_eq_false p (Classical.propDecidable p) h
theorem of_cd {p : Prop} (h : cd p = true) : p := @of_decide_eq_true p (Classical.propDecidable p) h
theorem cd_eq (p : Prop) [d : Decidable p] : cd p = decide p := by
  cases d with
  | isTrue h => rw [cd_true h]; rfl
  | isFalse h => rw [cd_false h]; rfl
noncomputable def cMul (i j : Int) : Bool := cd (-(18446744073709551616) < i ∧ i < 18446744073709551616) || cd (-(18446744073709551616) < j ∧ j < 18446744073709551616)
theorem cMul_ok {i j : Int} (h : cMul i j = true) : CMul i j := by
  unfold cMul at h
  rcases Bool.or_eq_true_iff.mp h with h | h
  · exact .inl (by have := of_cd h; simpa using this)
  · exact .inr (by have := of_cd h; simpa using this)
noncomputable def cDiv (_ j : Int) : Bool := cd (0 < j ∧ j < 1073741824)
noncomputable def cMod (_ j : Int) : Bool := cd (0 < j)
noncomputable def cPow (i j : Int) : Bool := cd (0 ≤ j ∧ j ≤ 1000000 ∧ i.natAbs < 18446744073709551616)
noncomputable def cShr (_ j : Int) : Bool := cd (0 ≤ j)
def gSub := gI cT (· - ·)
noncomputable def gDiv := gI cDiv (· / ·)
noncomputable def gMod := gI cMod (· % ·)
noncomputable def gPow := gI cPow fun i j => i ^ j.toNat
noncomputable def gShl := gI cPow fun i j => i * 2 ^ j.toNat
noncomputable def gShr := gI cShr fun i j => i / 2 ^ j.toNat
def gAnd := gI cT Builtin.bitAnd
def gOr := gI cT Builtin.bitOr
section
variable {X : Cx} {H0 : En} {W : WX} {e a b c : Expr} {f g k : EF} {pos : Pos}
theorem pdOpR {op : Operator} {G : PyData → PyData → Option PyData} (h : OpR X (binaryOp op) (rD X.K G)) (ha : PD X H0 W a f) (hb : PD X H0 W b g) : PD X H0 W (.BinOp a op b pos) (e2 (fD G) f g) := pd2 ha hb (op2D G) fun pa pb => pe_op h pa pb
theorem pdSub (ha : PD X H0 W a f) (hb : PD X H0 W b g) : PD X H0 W (.BinOp a .Sub b pos) (e2 (fD gSub) f g) := pdOpR (dopI (PL.OpR.rI0 op_sub) fun _ _ _ => trivial) ha hb
theorem pdDiv (ha : PD X H0 W a f) (hb : PD X H0 W b g) : PD X H0 W (.BinOp a .FloorDiv b pos) (e2 (fD gDiv) f g) := pdOpR (dopI op_fdiv fun _ _ h => by have := of_cd h; exact this) ha hb
theorem pdMod (ha : PD X H0 W a f) (hb : PD X H0 W b g) : PD X H0 W (.BinOp a .Mod b pos) (e2 (fD gMod) f g) := pdOpR (dopI op_mod fun _ _ h => of_cd h) ha hb
theorem pdPow (ha : PD X H0 W a f) (hb : PD X H0 W b g) : PD X H0 W (.BinOp a .Pow b pos) (e2 (fD gPow) f g) := pdOpR (dopI op_pow fun _ _ h => by have := of_cd h; simpa [CPow] using this) ha hb
theorem pdAnd (ha : PD X H0 W a f) (hb : PD X H0 W b g) : PD X H0 W (.BinOp a .BitAnd b pos) (e2 (fD gAnd) f g) := pdOpR (dopI (PL.OpR.rI0 op_and) fun _ _ _ => trivial) ha hb
end
def lstR : Sl → Option (Bool × List PyData)
  | .val fr (.list ds) => some (fr, ds)
  | .bor fr ds => some (fr, ds)
  | .brf (.list ds) => if ds.all scal = true then some (true, ds) else none
  | _ => none
/-- .. scalars are fresh -/
def lstD (x : Sl) : Option (Bool × List PyData) := match lstR x with
  | some (fr, ds) => some (fr || ds.all scal, ds)
  | none => none
def tupD : Sl → Option (Bool × List PyData)
  | .val fr (.tuple ds) => some (fr, ds)
  | .brf (.tuple ds) => if ds.all scal = true then some (true, ds) else none
  | _ => none
theorem RepAll.scal {L L' : Addr → HO → Prop} : ∀ {vs : List V} {ds : List PyData}, RepAll L vs ds → ds.all PL.scal = true → RepAll L' vs ds
  | _, _, .nil, _ => .nil
  | _, _, .cons r rs, h => by
    rw [List.all_cons, Bool.and_eq_true] at h
    exact .cons (r.scal h.1) (RepAll.scal rs h.2)
section
variable {K : PySem.W.Frag} {H0 : En} {B H : Hp} {v : V} {x : Sl} {fr : Bool} {ds : List PyData}
theorem RZ.lstR (e : Same B H) (r : RZ K H0 B H v x) (h : PL.lstR x = some (fr, ds)) : ∃ p vs, v = .ref p ∧ SqL K H p vs ∧ RepAll (LF K H0 B fr) vs ds := by
  cases x with
  | und => cases h
  | own _ _ => cases h
  | full _ => cases h
  | val fr' d =>
    cases d <;> first | cases h | skip
    obtain ⟨p, vs, rfl, h1, h2⟩ := Rep.lstV r
    exact ⟨p, vs, rfl, LF.toH e p _ h1, h2⟩
  | bor fr' ds' =>
    cases h
    obtain ⟨p, vs, rfl, h1, h2⟩ := r
    exact ⟨p, vs, rfl, SqL.of h1, h2⟩
  | exn n => cases h
  | cel k => cases h
  | brf d =>
    cases d <;> first | cases h | skip
    unfold PL.lstR at h
    dsimp only at h
    split at h
    · rename_i hs
      cases h
      obtain ⟨p, vs, rfl, h1, h2⟩ := Rep.lstV r
      exact ⟨p, vs, rfl, SqL.of h1, h2.scal hs⟩
    · cases h
theorem RZ.lst (e : Same B H) (r : RZ K H0 B H v x) (h : lstD x = some (fr, ds)) : ∃ p vs, v = .ref p ∧ SqL K H p vs ∧ RepAll (LF K H0 B fr) vs ds := by
  unfold lstD at h
  split at h
  · rename_i f ds' hl
    cases h
    obtain ⟨p, vs, e1, e2, e3⟩ := RZ.lstR e r hl
    refine ⟨p, vs, e1, e2, ?_⟩
    cases hs : ds.all PL.scal with
    | true => exact e3.scal hs
    | false => rw [Bool.or_false]; exact e3
  · cases h
theorem RZ.tup (e : Same B H) (r : RZ K H0 B H v x) (h : tupD x = some (fr, ds)) : ∃ p vs, v = .ref p ∧ SqT K H p vs ∧ RepAll (LF K H0 B fr) vs ds := by
  cases x with
  | und => cases h
  | own _ _ => cases h
  | full _ => cases h
  | val fr' d =>
    cases d <;> first | cases h | skip
    obtain ⟨p, vs, rfl, h1, h2⟩ := Rep.tupV r
    exact ⟨p, vs, rfl, LF.toH e p _ h1, h2⟩
  | bor fr' ds' => cases h
  | exn n => cases h
  | cel k => cases h
  | brf d =>
    cases d <;> first | cases h | skip
    unfold tupD at h
    dsimp only at h
    split at h
    · rename_i hs
      cases h
      obtain ⟨p, vs, rfl, h1, h2⟩ := Rep.tupV r
      exact ⟨p, vs, rfl, SqT.of h1, h2.scal hs⟩
    · cases h
end
section
variable {X : Cx} {H0 : En}
def rCatS (K : PySem.W.Frag) : R2 := fun x y H Q => ∃ l b xs zs, x = .ref l ∧ y = .ref b ∧ SqL K H l xs ∧ SqL K H b zs ∧ xs.length + zs.length ≤ sizeLine ∧ ∀ p, H p = none → Q (.ref p) (upd H p (.lst (xs ++ zs)))
theorem opCatS : OpR X (binaryOp .Add) (rCatS X.K) := by
  intro pins s σ H x y v u Q I rx ry ⟨l, b, xs, zs, ex, ey, hl, hb, hz, q⟩
  subst ex; subst ey
  cases rx; cases ry
  obtain ⟨i1, v1, ⟨⟨c1, d1, dt1, sl1⟩, n1, g1, k1, k2, k3⟩, _⟩ := I.list hl
  obtain ⟨i2, v2, ⟨⟨c2, d2, dt2, sl2⟩, n2, g2, m1, m2, m3⟩, _⟩ := I.list hb
  dsimp only at k1 k2 k3 m1 m2 m3
  subst k1; subst k2; subst k3; subst m1; subst m2; subst m3
  have z1 := v1.length
  have z2 := v2.length
  have ea : i1.toArray ++ i2.toArray = (i1 ++ i2).toArray := by simp
  refine concat_meets ⟨_, g1, rfl⟩ ⟨_, g2, rfl⟩ noFill_list_add seq_list_add PySem.F.slot_list_add PySem.F.entry_list_add (PySem.F.args_list_add_2 _ _)
    (list_addW l b _ _ n1 n2 _ _ sl1 sl2 (by simp only [List.size_toArray]; omega)) ⟨g1, g2, ?_⟩
  rw [ea]
  refine ⟨.ref _, _, I.lnew (t' := s.toks) (v1.append v2) ?_, rfl, q _ I.fresh⟩
  rw [List.length_append]; omega
def rRepS (K : PySem.W.Frag) : R2 := fun x y H Q => ∃ l k xs, x = .ref l ∧ y = .int k ∧ SqL K H l xs ∧ -(2 ^ 63) ≤ k ∧ k < 2 ^ 63 ∧ xs.length * k.toNat ≤ sizeLine ∧ ∀ p, H p = none → Q (.ref p) (upd H p (.lst (List.replicate k.toNat xs).flatten))
theorem opRepS : OpR X (binaryOp .Mult) (rRepS X.K) := by
  intro pins s σ H x y v u Q I rx ry ⟨l, k, xs, ex, ey, hl, b1, b2, hz, q⟩
  subst ex; subst ey
  cases rx
  obtain ⟨t, et⟩ := ry
  subst et
  obtain ⟨i1, v1, ⟨⟨c1, d1, dt1, sl1⟩, n1, g1, k1, k2, k3⟩, _⟩ := I.list hl
  dsimp only at k1 k2 k3
  subst k1; subst k2; subst k3
  have z1 := v1.length
  have hs : sizeLine = 16777216 := sizeLine_eq
  have hsz : i1.toArray.size * k.toNat ≤ 16777216 := by rw [List.size_toArray, ← z1]; omega
  refine wpAny_binaryOp_repeat_ref (T := "list") (U := "int") (by decide) ⟨_, g1, rfl⟩ (fun s' => typeIs_int s' k t) noFill_list_mul F.fills_int_mul F.slot_int_rmul repeat_list F.slot_int_index.lookup
    (call_meets F.slot_int_rmul (typeIs_int s k t) F.entry_int_rmul (F.args_int_rmul_2 _ _) (lm_int_rmul_list_any k t l i1.toArray n1 none sl1) ⟨g1, rfl, ⟨_, g1, rfl⟩, ?_⟩)
  refine call_meets F.slot_list_mul ⟨_, g1, rfl⟩ F.entry_list_mul (F.args_list_mul_2 _ _) (lm_list_mul_any l i1.toArray n1 none sl1 k t (by simp [Builtin.List.listFitsIndex]; omega) (by omega) (by simp [Builtin.List.listTooLong, sizeLine]; omega)) ⟨g1, ?_⟩
  rw [listMul_foldl_if]
  refine ⟨.ref _, _, I.lnew (t' := s.toks) (v1.rep k.toNat) ?_, rfl, q _ I.fresh⟩
  rw [lm_len_rep_flat, Nat.mul_comm]; exact hz
/-- + of ints, texts, lists -/
def gAddS (d e : PyData) : Option PyData :=
  match d, e with
  | .int i, .int j => some (.int (i + j))
  | .str x, .str y => if x.length + y.length ≤ 16777216 then some (.str (x ++ y)) else none
  | _, _ => none
def catT (x y : Sl) : Option (Bool × Bool × List PyData × List PyData) := match x, y with
  | .val f1 (.tuple d1), .val f2 (.tuple d2) => if (!d1.isEmpty && !d2.isEmpty && decide (d1.length + d2.length ≤ 16777216)) = true then some (f1, f2, d1, d2) else none
  | _, _ => none
def fAdd (x y : Sl) : Option Sl :=
  match lstD x with
  | some (f1, d1) => match lstD y with
    | some (f2, d2) => if d1.length + d2.length ≤ 16777216 then some (.own (f1 && f2) (d1 ++ d2)) else none
    | none => none
  | none => match catT x y with
    | some (f1, f2, d1, d2) => some (.val (f1 && f2) (.tuple (d1 ++ d2)))
    | none => fD gAddS x y
def rAddS (K : PySem.W.Frag) : R2 := fun x y H Q => rCatS K x y H Q ∨ rCatA K x y H Q ∨ rD K gAddS x y H Q
theorem opAddS : OpR X (binaryOp .Add) (rAddS X.K) := by
  refine opCatS.or (op_catA.or ?_)
  intro pins s σ H x y v u Q I rx ry ⟨d, e, r, h1, h2, h3, h4, q⟩
  unfold gAddS at h3
  split at h3
  · cases h3
    exact op_add pins s σ H x y v u Q I rx ry ⟨_, _, h1.intV, h2.intV, q⟩
  · split at h3
    · cases h3
      rename_i hz
      exact op_add_str pins s σ H x y v u Q I rx ry ⟨_, _, h1.strV, h2.strV, by rw [sizeLine_eq]; exact hz, q⟩
    · cases h3
  · cases h3
theorem op2Add : Op2 X H0 (rAddS X.K) fAdd := by
  intro B H x y v w s Q e0 eB r1 r2 hf hq
  unfold fAdd at hf
  split at hf
  · rename_i f1 d1 h1
    split at hf
    · rename_i f2 d2 h2
      split at hf
      · rename_i hz
        cases hf
        obtain ⟨p, vs, rfl, s1, a1⟩ := r1.lst eB h1
        obtain ⟨p2, ws, rfl, s2, a2⟩ := r2.lst eB h2
        refine .inl ⟨p, p2, vs, ws, rfl, rfl, s1, s2, by rw [a1.length, a2.length, sizeLine_eq]; exact hz, fun q hp => ?_⟩
        exact hq.new eB ((a1.mono LF.and1).append (a2.mono LF.and2)) hp
      · cases hf
    · cases hf
  · split at hf
    · rename_i f1 f2 d1 d2 hc
      cases hf
      unfold catT at hc
      split at hc
      · split at hc
        · rename_i hz
          cases hc
          simp only [Bool.and_eq_true, Bool.not_eq_true', decide_eq_true_eq] at hz
          obtain ⟨p, vs, rfl, s1, a1⟩ := r1.tup eB rfl
          obtain ⟨p2, ws, rfl, s2, a2⟩ := r2.tup eB rfl
          have n1 : vs ≠ [] := fun z => by subst z; have := a1.length; rw [List.length_nil] at this; rw [List.length_eq_zero_iff.mp this.symm] at hz; exact absurd hz.1.1 (by decide)
          have n2 : ws ≠ [] := fun z => by subst z; have := a2.length; rw [List.length_nil] at this; rw [List.length_eq_zero_iff.mp this.symm] at hz; exact absurd hz.1.2 (by decide)
          exact .inr (.inl ⟨p, p2, vs, ws, rfl, rfl, s1, s2, by rw [a1.length, a2.length, sizeLine_eq]; exact hz.2, fun z => absurd z n1, fun _ z => absurd z n2, fun _ _ q hp => hq.tup e0 eB ((a1.mono LF.and1).append (a2.mono LF.and2)) hp⟩)
        · cases hc
      · cases hc
    · exact .inr (.inr (op2D gAddS B H x y v w s Q e0 eB r1 r2 hf hq))
noncomputable def gMulS := gI cMul (· * ·)
noncomputable def fMul (x y : Sl) : Option Sl :=
  match lstD x with
  | some (f1, d1) => match dat y with
    | some (.int k) => if cd (-(9223372036854775808) ≤ k ∧ k < 9223372036854775808 ∧ d1.length * k.toNat ≤ 16777216) = true then some (.own f1 (List.replicate k.toNat d1).flatten) else none
    | _ => none
  | none => fD gMulS x y
def rMulS (K : PySem.W.Frag) : R2 := fun x y H Q => rRepS K x y H Q ∨ rD K gMulS x y H Q
theorem opMulS : OpR X (binaryOp .Mult) (rMulS X.K) := opRepS.or (dopI op_mul fun _ _ h => cMul_ok h)
theorem op2Mul : Op2 X H0 (rMulS X.K) fMul := by
  intro B H x y v w s Q e0 eB r1 r2 hf hq
  unfold fMul at hf
  split at hf
  · rename_i f1 d1 h1
    split at hf
    · rename_i k h2
      split at hf
      · rename_i hz
        cases hf
        obtain ⟨p, vs, rfl, s1, a1⟩ := r1.lst eB h1
        have hk := (r2.data eB h2).intV
        have hz := of_cd hz
        refine .inl ⟨p, k, vs, rfl, hk, s1, by simpa using hz.1, by simpa using hz.2.1, by rw [a1.length, sizeLine_eq]; exact hz.2.2, fun q hp => ?_⟩
        exact hq.new eB (a1.rep k.toNat) hp
      · cases hf
    · cases hf
  · exact .inr (op2D gMulS B H x y v w s Q e0 eB r1 r2 hf hq)
end
section
variable {X : Cx} {H0 : En} {W : WX} {e a b c : Expr} {f g k : EF} {pos : Pos}
theorem pdAdd (ha : PD X H0 W a f) (hb : PD X H0 W b g) : PD X H0 W (.BinOp a .Add b pos) (e2 fAdd f g) := pd2 ha hb op2Add fun pa pb => pe_op opAddS pa pb
theorem pdMul (ha : PD X H0 W a f) (hb : PD X H0 W b g) : PD X H0 W (.BinOp a .Mult b pos) (e2 fMul f g) := pd2 ha hb op2Mul fun pa pb => pe_op opMulS pa pb
/-- -a -/
def fNeg (x : Sl) : Option Sl := match dat x with | some (.int i) => some (.val true (.int (-i))) | _ => none
theorem pdNeg (ha : PD X H0 W a f) : PD X H0 W (.UnaryOp .USub a pos) (e1 fNeg f) := pd1 ha (fun B H x v s Q e0 eB r hf hq => by
  unfold fNeg at hf
  split at hf
  · rename_i i hi
    cases hf
    exact ⟨i, (r.data eB hi).intV, hq.int eB⟩
  · cases hf) fun pa => pe_un un_neg pa
end
noncomputable def gEq (d e : PyData) : Option PyData :=
  match d, e with
  | .int i, .int j => some (.bool (cd (i = j)))
  | d, e => if d.depth ≤ 60 then some (.bool (PyData.eqv d e)) else none
noncomputable def gNe (d e : PyData) : Option PyData :=
  match d, e with
  | .int i, .int j => some (.bool (!cd (i = j)))
  | d, e => if d.depth ≤ 60 then some (.bool (!PyData.eqv d e)) else none
/-- an order: of ints; of alike data -/
def gOrd (p : Int → Int → Bool) (q : PyData → PyData → Bool) (d e : PyData) : Option PyData :=
  match d, e with
  | .int i, .int j => some (.bool (p i j))
  | .none, _ => none
  | d, e => if PySem.W.alike d e = true ∧ d.depth ≤ 60 then some (.bool (q d e)) else none
noncomputable def gLt := gOrd (fun i j => cd (i < j)) fun d e => PySem.W.dataLt d e
noncomputable def gLe := gOrd (fun i j => cd (i ≤ j)) fun d e => !PySem.W.dataLt e d
noncomputable def gGt := gOrd (fun i j => cd (j < i)) fun d e => PySem.W.dataLt e d
noncomputable def gGe := gOrd (fun i j => cd (j ≤ i)) fun d e => !PySem.W.dataLt d e
def gIs (neg : Bool) (d e : PyData) : Option PyData :=
  match d, e with
  | .bool a, .bool b => some (.bool (neg ^^ decide (a = b)))
  | .none, .none => some (.bool (!neg))
  | _, .none => some (.bool neg)
  | _, _ => none
section
variable {X : Cx} {k : Nat}
theorem room60 (hr : X.A.units + 64 < cLine) {d e : PyData} (h : d.depth ≤ 60) : X.A.units + min d.depth e.depth < cLine := by
  have := hr
  have h2 : min d.depth e.depth ≤ d.depth := Nat.min_le_left _ _
  omega
theorem dopEq (hr : X.A.units + 64 < cLine) : DOp X (compareOp .Eq) gEq := by
  intro s u w d e r as bs Q r1 r2 p1 p2 hg hs q
  unfold gEq at hg
  split at hg
  · cases hg
    cases r1; cases r2
    exact eq_int (by have := q _ s.toks rfl; rw [cd_eq] at this; rw [Bool.beq_eq_decide_eq]; exact this)
  · split at hg
    · rename_i hd
      cases hg
      exact SeqAt.eq_plain r1 r2 p1 p2 (room60 hr hd) (q _ s.toks rfl)
    · cases hg
theorem dopNe (hr : X.A.units + 64 < cLine) : DOp X (compareOp .NotEq) gNe := by
  intro s u w d e r as bs Q r1 r2 p1 p2 hg hs q
  unfold gNe at hg
  split at hg
  · cases hg
    cases r1; cases r2
    exact ne_int (by have := q _ s.toks rfl; rw [cd_eq] at this; rw [bne, Bool.beq_eq_decide_eq]; exact this)
  · split at hg
    · rename_i hd
      cases hg
      exact SeqAt.ne_plain r1 r2 p1 p2 (room60 hr hd) (q _ s.toks rfl)
    · cases hg
theorem dopLt (hr : X.A.units + 64 < cLine) : DOp X (compareOp .Lt) gLt := by
  intro s u w d e r as bs Q r1 r2 p1 p2 hg hs q
  unfold gLt gOrd at hg
  split at hg
  · cases hg
    cases r1; cases r2
    exact lt_int (by have := q _ s.toks rfl; dsimp only at this; rw [cd_eq] at this; exact this)
  · cases hg
  · split at hg
    · rename_i hd
      cases hg
      exact PySem.W.lt_data r1 r2 hd.1 (by assumption) (room60 hr hd.2) (q _ s.toks rfl)
    · cases hg
theorem dopLe (hr : X.A.units + 64 < cLine) : DOp X (compareOp .LtE) gLe := by
  intro s u w d e r as bs Q r1 r2 p1 p2 hg hs q
  unfold gLe gOrd at hg
  split at hg
  · cases hg
    cases r1; cases r2
    exact le_int (by have := q _ s.toks rfl; dsimp only at this; rw [cd_eq] at this; exact this)
  · cases hg
  · split at hg
    · rename_i hd
      cases hg
      exact PySem.W.le_data r1 r2 hd.1 (by assumption) (room60 hr hd.2) (q _ s.toks rfl)
    · cases hg
theorem dopGt (hr : X.A.units + 64 < cLine) : DOp X (compareOp .Gt) gGt := by
  intro s u w d e r as bs Q r1 r2 p1 p2 hg hs q
  unfold gGt gOrd at hg
  split at hg
  · cases hg
    cases r1; cases r2
    exact gt_int (by have := q _ s.toks rfl; dsimp only at this; rw [cd_eq] at this; exact this)
  · cases hg
  · split at hg
    · rename_i hd
      cases hg
      exact PySem.W.gt_data r1 r2 hd.1 (by assumption) (room60 hr hd.2) (q _ s.toks rfl)
    · cases hg
theorem dopGe (hr : X.A.units + 64 < cLine) : DOp X (compareOp .GtE) gGe := by
  intro s u w d e r as bs Q r1 r2 p1 p2 hg hs q
  unfold gGe gOrd at hg
  split at hg
  · cases hg
    cases r1; cases r2
    exact ge_int (by have := q _ s.toks rfl; dsimp only at this; rw [cd_eq] at this; exact this)
  · cases hg
  · split at hg
    · rename_i hd
      cases hg
      exact PySem.W.ge_data r1 r2 hd.1 (by assumption) (room60 hr hd.2) (q _ s.toks rfl)
    · cases hg
end
section
variable {X : Cx} {H0 : En} {W : WX} {e a b c : Expr} {f g : EF} {pos : Pos} {k : Nat}
theorem pdEq (hr : X.A.units + 64 < cLine) (ha : PD X H0 W a f) (hb : PD X H0 W b g) : PD X H0 W (.Compare a [.Eq] [b] pos) (e2 (fD gEq) f g) := pdCmpD (dopEq hr) ha hb (nomark _)
theorem pdNe (hr : X.A.units + 64 < cLine) (ha : PD X H0 W a f) (hb : PD X H0 W b g) : PD X H0 W (.Compare a [.NotEq] [b] pos) (e2 (fD gNe) f g) := pdCmpD (dopNe hr) ha hb (nomark _)
theorem pdLt (hr : X.A.units + 64 < cLine) (ha : PD X H0 W a f) (hb : PD X H0 W b g) : PD X H0 W (.Compare a [.Lt] [b] pos) (e2 (fD gLt) f g) := pdCmpD (dopLt hr) ha hb (nomark _)
theorem pdGt (hr : X.A.units + 64 < cLine) (ha : PD X H0 W a f) (hb : PD X H0 W b g) : PD X H0 W (.Compare a [.Gt] [b] pos) (e2 (fD gGt) f g) := pdCmpD (dopGt hr) ha hb (nomark _)
theorem pdGe (hr : X.A.units + 64 < cLine) (ha : PD X H0 W a f) (hb : PD X H0 W b g) : PD X H0 W (.Compare a [.GtE] [b] pos) (e2 (fD gGe) f g) := pdCmpD (dopGe hr) ha hb (nomark _)
end
end PL
namespace PL
open PySem PySem.Spec PyProof.Rows L2
inductive Rb where
  | ok (b : Bool)
  | ex (n : Str)
abbrev BF := Ev → Option Rb
def OKB (K : PySem.W.Frag) (mg : Str → Option Value) (W : WX) (B H : Hp) (σ : L2.St) (o : Option Rb) (Q : Bool → Hp → Prop) : Prop :=
  (∃ b, o = some (.ok b) ∧ ∀ B' H', Nx B H B' H' → Q b H') ∨ ∃ n, o = some (.ex n) ∧ KX mg B H σ W n
def tT (K : PySem.W.Frag) (mg : Str → Option Value) (H0 : En) (W : WX) (f : BF) : TT := fun σ H Q => ∃ B ρ, ER K H0 B H σ ρ ∧ OKB K mg W B H σ (f ρ) Q
structure PB (X : Cx) (H0 : En) (W : WX) (e : Expr) (f : BF) : Prop where
  pt : PT X e (tT X.K X.mg H0 W f)
structure PBw (X : Cx) (H0 : En) (W : WX) (e : Expr) (f : BF) : Prop where
  pw : PW X e (tT X.K X.mg H0 W f)
def truth : PyData → Option Bool
  | .none => some false
  | .bool b => some b
  | .int i => some (i != 0)
  | .str x => if x.length ≤ 16777216 then some (x.length != 0) else none
  | .list xs => some (!xs.isEmpty)
  | .tuple xs => some (!xs.isEmpty)
  | .dict _ => none
def okB (o : Option Bool) : Option Rb := o.map .ok
/-- an expression's result as a test -/
def tOf (f : EF) : BF := fun ρ =>
  match f ρ with
  | some (.ok s) => match dat (frz s) with
    | some d => okB (truth d)
    | none => none
  | some (.ex n) => some (.ex n)
  | none => none
section
variable {X : Cx} {H0 : En} {W : WX} {e a b c : Expr} {f g k : EF} {pos : Pos} {K : PySem.W.Frag} {B H B' H' : Hp} {σ : L2.St} {mg : Str → Option Value}
theorem okB_ok {o : Option Bool} {b : Bool} (h : okB o = some (.ok b)) : o = some b := by
  cases o with
  | none => cases h
  | some u => cases h; rfl
theorem okB_ex {o : Option Bool} {n : Str} (h : okB o = some (.ex n)) : False := by
  cases o with
  | none => cases h
  | some u => cases h
theorem OKB.nx {o : Option Rb} {Q : Bool → Hp → Prop} (h : OKB K mg W B H σ o Q) (n : Nx B H B' H') : OKB K mg W B' H' σ o Q := by
  rcases h with ⟨s, h1, h2⟩ | ⟨m, h1, h2⟩
  · exact .inl ⟨s, h1, fun B2 H2 n2 => h2 B2 H2 (n.trans n2)⟩
  · exact .inr ⟨m, h1, h2.nx n⟩
theorem tof_ok {ρ : Ev} {r : Option Rs} {Q : Bool → Hp → Prop} {R : VK} (hr : f ρ = r) (h : OKB K mg W B H σ (tOf f ρ) Q)
    (c : ∀ (x : Sl) (d : PyData) (b : Bool) (v : V) (B' H' : Hp), Nx B H B' H' → RZ K H0 B' H' v x → dat x = some d → truth d = some b → Q b H' → R v H') : OKZ K mg H0 W B H σ r R := by
  subst hr
  unfold tOf at h
  cases q : f ρ with
  | none => rw [q] at h; rcases h with ⟨s, h1, h2⟩ | ⟨m, h1, h2⟩ <;> cases h1
  | some o =>
    rw [q] at h
    cases o with
    | ex m =>
      rcases h with ⟨s, h1, h2⟩ | ⟨m', h1, h2⟩
      · cases h1
      · cases h1; exact .inr ⟨m, rfl, h2⟩
    | ok x =>
      refine .inl ⟨x, rfl, fun v B' H' n rz => ?_⟩
      dsimp only at h
      cases qd : dat (frz x) with
      | none => rw [qd] at h; rcases h with ⟨s, h1, h2⟩ | ⟨m, h1, h2⟩ <;> cases h1
      | some d =>
        rw [qd] at h
        rcases h with ⟨b, h1, h2⟩ | ⟨m, h1, h2⟩
        · exact c (frz x) d b v B' H' n rz qd (okB_ok h1) (h2 B' H' n)
        · exact (okB_ex h1).elim
theorem truth_ok {v : V} {d : PyData} {b : Bool} (r : Rep (LH K H) v d) (h : truth d = some b) : TruV K v H b := by
  cases r with
  | non => cases h; rfl
  | bl _ => cases h; rfl
  | int _ => cases h; rfl
  | str x =>
    unfold truth at h
    dsimp only at h
    split at h
    · rename_i hz
      cases h
      refine ⟨by rw [sizeLine_eq]; exact hz, ?_⟩
      by_cases e : x.length = 0
      · rw [e]; rfl
      · have h2 : (x.length : Int) ≠ 0 := by omega
        rw [bne_iff_ne.mpr e, bne_iff_ne.mpr h2]
    · cases h
  | lst e r => cases h; exact .inl ⟨_, e, by have := r.length; rename_i xs ds; cases xs <;> cases ds <;> simp_all⟩
  | tup e r => cases h; exact .inr (.inl ⟨_, e, by have := r.length; rename_i xs ds; cases xs <;> cases ds <;> simp_all⟩)
/-- a name, a call, a subscript .. as a test -/
theorem pbTruth (h : PD X H0 W e f) (he : ∀ whole, isTrue e X.env whole = (do let v ← whole; standAt e.pos; holding [v] (truthy v)) := by intro _; rfl) : PB X H0 W e (tOf f) :=
  ⟨ptWeak (pt_truth h.z he) fun σ H Q ⟨B, ρ, E, q⟩ => ⟨B, ρ, E, tof_ok rfl q fun x d b v B' H' n rz hd ht hq => ⟨b, truth_ok (rz.data n.bh hd) ht, hq⟩⟩⟩
/-- a result that is a bool, as a test -/
def bOf (f : EF) : BF := fun ρ =>
  match f ρ with
  | some (.ok (.val _ (.bool b))) => some (.ok b)
  | some (.ex n) => some (.ex n)
  | _ => none
theorem bof_ok {ρ : Ev} {Q : Bool → Hp → Prop} (h : OKB K mg W B H σ (bOf f ρ) Q) : OK K mg H0 W B H σ (f ρ) fun v H' => ∃ b, v = .bl b ∧ Q b H' := by
  unfold bOf at h
  split at h
  · rename_i fr b hb
    rcases h with ⟨s, h1, h2⟩ | ⟨m, h1, h2⟩
    · cases h1
      exact .inl ⟨_, hb, fun v B' H' T n t r => ⟨b, Rep.blV r, h2 B' H' n⟩⟩
    · cases h1
  · rename_i n hn
    rcases h with ⟨s, h1, h2⟩ | ⟨m, h1, h2⟩
    · cases h1
    · cases h1; exact .inr ⟨n, hn, h2⟩
  · rcases h with ⟨s, h1, h2⟩ | ⟨m, h1, h2⟩ <;> cases h1
theorem pd2core {r : R2} {F : Sl → Sl → Option Sl} (ho : Op2 X H0 r F) {ρ : Ev} {Q : VK} (E : ER X.K H0 B H σ ρ) (q : OK X.K X.mg H0 W B H σ (e2 F f g ρ) Q) : tOp r (tZ X.K X.mg H0 W f) (tZ X.K X.mg H0 W g) σ H Q := by
  refine ⟨B, ρ, E, OK.bz q fun x v B1 H1 n1 r1 q1 => ?_⟩
  have E1 := E.nx n1
  refine ⟨B1, ρ, E1, OK.bz q1 fun y w B2 H2 n2 r2 q2 => ?_⟩
  have E2 := E1.nx n2
  obtain ⟨s, h1, h2⟩ := OK.okO q2
  exact ho B2 H2 x y v w s Q E2.e0 E2.eB (r1.mono n2) r2 h1 h2
/-- a comparison as a test -/
theorem pbCmp {op : CmpOp} {G : PyData → PyData → Option PyData} (h : OpR X (compareOp op) (rD X.K G)) (ha : PD X H0 W a f) (hb : PD X H0 W b g) (hm : behindInMarks op b = false) : PB X H0 W (.Compare a [op] [b] pos) (bOf (e2 (fD G) f g)) :=
  ⟨ptWeak (pt_cmpR h ha.z hb.z hm) fun σ H Q ⟨B, ρ, E, q⟩ => pd2core (op2D G) E (bof_ok q)⟩
theorem pbEq (hr : X.A.units + 64 < cLine) (ha : PD X H0 W a f) (hb : PD X H0 W b g) : PB X H0 W (.Compare a [.Eq] [b] pos) (bOf (e2 (fD gEq) f g)) := pbCmp (dopEq hr).op ha hb (nomark _)
theorem pbNe (hr : X.A.units + 64 < cLine) (ha : PD X H0 W a f) (hb : PD X H0 W b g) : PB X H0 W (.Compare a [.NotEq] [b] pos) (bOf (e2 (fD gNe) f g)) := pbCmp (dopNe hr).op ha hb (nomark _)
theorem pbLt (hr : X.A.units + 64 < cLine) (ha : PD X H0 W a f) (hb : PD X H0 W b g) : PB X H0 W (.Compare a [.Lt] [b] pos) (bOf (e2 (fD gLt) f g)) := pbCmp (dopLt hr).op ha hb (nomark _)
theorem pbGt (hr : X.A.units + 64 < cLine) (ha : PD X H0 W a f) (hb : PD X H0 W b g) : PB X H0 W (.Compare a [.Gt] [b] pos) (bOf (e2 (fD gGt) f g)) := pbCmp (dopGt hr).op ha hb (nomark _)
def bNot (f : BF) : BF := fun ρ => match f ρ with | some (.ok b) => some (.ok (!b)) | r => r
def bAnd (f g : BF) : BF := fun ρ => match f ρ with | some (.ok true) => g ρ | r => r
def bOr (f g : BF) : BF := fun ρ => match f ρ with | some (.ok false) => g ρ | r => r
theorem pbNot {f : BF} (h : PB X H0 W a f) : PB X H0 W (.UnaryOp .Not a pos) (bNot f) := ⟨ptWeak (pt_not h.pt) fun σ H Q ⟨B, ρ, E, q⟩ => ⟨B, ρ, E, by
  unfold bNot at q
  cases r : f ρ with
  | none => rw [r] at q; rcases q with ⟨s, h1, h2⟩ | ⟨m, h1, h2⟩ <;> cases h1
  | some o =>
    rw [r] at q
    cases o with
    | ok b =>
      rcases q with ⟨s, h1, h2⟩ | ⟨m, h1, h2⟩
      · cases h1; exact .inl ⟨b, rfl, h2⟩
      · cases h1
    | ex n =>
      rcases q with ⟨s, h1, h2⟩ | ⟨m, h1, h2⟩
      · cases h1
      · cases h1; exact .inr ⟨n, rfl, h2⟩⟩⟩
theorem PBw.pb {f : BF} (h : PBw X H0 W e f) : PB X H0 W e f := ⟨h.pw.pt⟩
theorem pbAnd1 {f : BF} (h : PB X H0 W a f) : PBw X H0 W (.BoolOp .And [a] pos) f := ⟨pw_and1 h.pt⟩
theorem pbOr1 {f : BF} (h : PB X H0 W a f) : PBw X H0 W (.BoolOp .Or [a] pos) f := ⟨pw_or1 h.pt⟩
theorem pwWeak {t t' : TT} (h : PW X e t) (i : ∀ σ H Q, t' σ H Q → t σ H Q) : PW X e t' := ⟨fun w pins s σ H Q I q => h.run w pins s σ H Q I (i σ H Q q)⟩
theorem pbAnd {f g : BF} {rest : List Expr} (ha : PB X H0 W a f) (hb : PBw X H0 W (.BoolOp .And (b :: rest) pos) g) : PBw X H0 W (.BoolOp .And (a :: b :: rest) pos) (bAnd f g) := ⟨pwWeak (pw_and ha.pt hb.pw) fun σ H Q ⟨B, ρ, E, q⟩ => ⟨B, ρ, E, by
  unfold bAnd at q
  cases r : f ρ with
  | none => rw [r] at q; rcases q with ⟨s, h1, h2⟩ | ⟨m, h1, h2⟩ <;> cases h1
  | some o =>
    rw [r] at q
    cases o with
    | ok b =>
      cases b with
      | true => exact .inl ⟨true, rfl, fun B' H' n => ⟨B', ρ, E.nx n, q.nx n⟩⟩
      | false =>
        rcases q with ⟨s, h1, h2⟩ | ⟨m, h1, h2⟩
        · cases h1; exact .inl ⟨false, rfl, h2⟩
        · cases h1
    | ex n =>
      rcases q with ⟨s, h1, h2⟩ | ⟨m, h1, h2⟩
      · cases h1
      · cases h1; exact .inr ⟨n, rfl, h2⟩⟩⟩
theorem pbOr {f g : BF} {rest : List Expr} (ha : PB X H0 W a f) (hb : PBw X H0 W (.BoolOp .Or (b :: rest) pos) g) : PBw X H0 W (.BoolOp .Or (a :: b :: rest) pos) (bOr f g) := ⟨pwWeak (pw_or ha.pt hb.pw) fun σ H Q ⟨B, ρ, E, q⟩ => ⟨B, ρ, E, by
  unfold bOr at q
  cases r : f ρ with
  | none => rw [r] at q; rcases q with ⟨s, h1, h2⟩ | ⟨m, h1, h2⟩ <;> cases h1
  | some o =>
    rw [r] at q
    cases o with
    | ok b =>
      cases b with
      | false => exact .inl ⟨false, rfl, fun B' H' n => ⟨B', ρ, E.nx n, q.nx n⟩⟩
      | true =>
        rcases q with ⟨s, h1, h2⟩ | ⟨m, h1, h2⟩
        · cases h1; exact .inl ⟨true, rfl, h2⟩
        · cases h1
    | ex n =>
      rcases q with ⟨s, h1, h2⟩ | ⟨m, h1, h2⟩
      · cases h1
      · cases h1; exact .inr ⟨n, rfl, h2⟩⟩⟩
/-- and, or of bools as values -/
def eAnd (f g : EF) : EF := fun ρ => PL.bz (f ρ) fun x => match dat x with
  | some (.bool true) => g ρ
  | some (.bool false) => some (.ok (.val true (.bool false)))
  | _ => none
def eOr (f g : EF) : EF := fun ρ => PL.bz (f ρ) fun x => match dat x with
  | some (.bool false) => g ρ
  | some (.bool true) => some (.ok (.val true (.bool true)))
  | _ => none
theorem okNone {Q : VK} (h : OK K mg H0 W B H σ none Q) : False := by rcases h with ⟨s, h1, h2⟩ | ⟨m, h1, h2⟩ <;> cases h1
theorem pdOne {op : BoolOp} (h : PD X H0 W a f) : PD X H0 W (.BoolOp op [a] pos) f := ⟨pe_one h.pe⟩
theorem pdOrV {rest : List Expr} (ha : PD X H0 W a f) (hb : PD X H0 W (.BoolOp .Or (b :: rest) pos) g) : PD X H0 W (.BoolOp .Or (a :: b :: rest) pos) (eOr f g) := ⟨peWeak (pe_or ha.z hb.pe) fun σ H Q ⟨B, ρ, E, q⟩ => ⟨B, ρ, E, OK.bz q fun x v B1 H1 n1 r1 q1 => by
  split at q1
  · rename_i hd
    exact ⟨false, (r1.data n1.bh hd).blV, by rw [if_neg Bool.false_ne_true]; exact ⟨B1, ρ, E.nx n1, q1⟩⟩
  · rename_i hd
    refine ⟨true, (r1.data n1.bh hd).blV, ?_⟩
    rw [if_pos rfl]
    rcases q1 with ⟨s, h1, h2⟩ | ⟨m, h1, h2⟩
    · cases h1; exact h2.bl n1.bh
    · cases h1
  · exact (okNone q1).elim⟩⟩
def eNot (f : EF) : EF := fun ρ => PL.bz (f ρ) fun x => match dat x with
  | some (.bool b) => some (.ok (.val true (.bool (!b))))
  | _ => none
def eIf (t : BF) (f g : EF) : EF := fun ρ => match t ρ with
  | some (.ok true) => f ρ
  | some (.ok false) => g ρ
  | some (.ex n) => some (.ex n)
  | none => none
/-- a op b op' c -/
def eChain (G G' : PyData → PyData → Option PyData) (f g k : EF) : EF := fun ρ => PL.bz (f ρ) fun x => PL.bz (g ρ) fun y => match fD G x y with
  | some (.val _ (.bool true)) => PL.bz (k ρ) fun z => okO (fD G' y z)
  | some (.val _ (.bool false)) => some (.ok (.val true (.bool false)))
  | _ => none
theorem fD_some {G : PyData → PyData → Option PyData} {x y s : Sl} (h : fD G x y = some s) : ∃ d e r, dat x = some d ∧ dat y = some e ∧ G d e = some r ∧ PL.scal r = true ∧ s = .val true r := by
  unfold fD at h
  split at h
  · rename_i d hd
    split at h
    · rename_i d' hd'
      split at h
      · rename_i r hr
        split at h
        · rename_i hs
          cases h
          exact ⟨d, d', r, hd, hd', hr, hs, rfl⟩
        · cases h
      · cases h
    · cases h
  · cases h
theorem chain_ok {G G' : PyData → PyData → Option PyData} {B : Hp} {ρ : Ev} {Q : VK} (E : ER X.K H0 B H σ ρ) (q : OK X.K X.mg H0 W B H σ (eChain G G' f g k ρ) Q) :
    OKZ X.K X.mg H0 W B H σ (f ρ) fun v H1 => tZ X.K X.mg H0 W g σ H1 fun w H2 => rD X.K G v w H2 fun z H3 => ∃ b, z = .bl b ∧ if b = true then tZ X.K X.mg H0 W k σ H3 fun u H4 => rD X.K G' w u H4 Q else Q (.bl false) H3 := by
  refine OK.bz q fun x v B1 H1 n1 r1 q1 => ⟨B1, ρ, E.nx n1, OK.bz q1 fun y w B2 H2 n2 r2 q2 => ?_⟩
  have E2 := (E.nx n1).nx n2
  split at q2
  · rename_i fr he
    obtain ⟨d, d', r, h1, h2, h3, h4, h5⟩ := fD_some he
    cases h5
    refine ⟨d, d', _, (r1.mono n2).data E2.eB h1, r2.data E2.eB h2, h3, rfl, true, rfl, ?_⟩
    rw [if_pos rfl]
    refine ⟨B2, ρ, E2, OK.bz q2 fun z u B3 H3 n3 r3 q3 => ?_⟩
    have E3 := E2.nx n3
    obtain ⟨s, g1, g2⟩ := OK.okO q3
    exact op2D G' B3 H3 y z w u s Q E3.e0 E3.eB (r2.mono n3) r3 g1 g2
  · rename_i fr he
    obtain ⟨d, d', r, h1, h2, h3, h4, h5⟩ := fD_some he
    cases h5
    refine ⟨d, d', _, (r1.mono n2).data E2.eB h1, r2.data E2.eB h2, h3, rfl, false, rfl, ?_⟩
    rw [if_neg Bool.false_ne_true]
    rcases q2 with ⟨s, h1, h2⟩ | ⟨m, h1, h2⟩
    · cases h1; exact h2.bl E2.eB
    · cases h1
  · exact (okNone q2).elim
theorem pdChain {op op' : CmpOp} {G G' : PyData → PyData → Option PyData} (ho : OpR X (compareOp op) (rD X.K G)) (ho' : OpR X (compareOp op') (rD X.K G')) (ha : PD X H0 W a f) (hb : PD X H0 W b g) (hc : PD X H0 W c k)
    (hm : lastMarks [op, op'] [b, c] = false := by with_unfolding_all rfl) : PD X H0 W (.Compare a [op, op'] [b, c] pos) (eChain G G' f g k) := ⟨peWeak (pe_chain ho ho' ha.z hb.z hc.z hm) fun σ H Q ⟨B, ρ, E, q⟩ => ⟨B, ρ, E, chain_ok E q⟩⟩
theorem pbChain {op op' : CmpOp} {G G' : PyData → PyData → Option PyData} (ho : OpR X (compareOp op) (rD X.K G)) (ho' : OpR X (compareOp op') (rD X.K G')) (ha : PD X H0 W a f) (hb : PD X H0 W b g) (hc : PD X H0 W c k)
    (hm : lastMarks [op, op'] [b, c] = false := by with_unfolding_all rfl) : PB X H0 W (.Compare a [op, op'] [b, c] pos) (bOf (eChain G G' f g k)) := ⟨ptWeak (pt_chain ho ho' ha.z hb.z hc.z hm) fun σ H Q ⟨B, ρ, E, q⟩ => ⟨B, ρ, E, chain_ok E (bof_ok q)⟩⟩
end
inductive Ra where
  | ok (ss : List Sl)
  | ex (n : Str)
def evs : List EF → Ev → Option Ra
  | [], _ => some (.ok [])
  | f :: fs, ρ => match f ρ with
    | some (.ok s) => match evs fs ρ with
      | some (.ok ss) => some (.ok (frz s :: ss))
      | r => r
    | some (.ex n) => some (.ex n)
    | none => none
inductive RZs (K : PySem.W.Frag) (H0 : En) (B H : Hp) : List V → List Sl → Prop
  | nil : RZs K H0 B H [] []
  | cons {v : V} {vs : List V} {s : Sl} {ss : List Sl} : RZ K H0 B H v s → RZs K H0 B H vs ss → RZs K H0 B H (v :: vs) (s :: ss)
theorem RZs.mono {K : PySem.W.Frag} {H0 : En} {B H B' H' : Hp} (n : Nx B H B' H') : ∀ {vs : List V} {ss : List Sl}, RZs K H0 B H vs ss → RZs K H0 B' H' vs ss
  | _, _, .nil => .nil
  | _, _, .cons r rs => .cons (r.mono n) (RZs.mono n rs)
def OKA (K : PySem.W.Frag) (mg : Str → Option Value) (H0 : En) (W : WX) (B H : Hp) (σ : L2.St) (o : Option Ra) (Q : List V → Hp → Prop) : Prop :=
  (∃ ss, o = some (.ok ss) ∧ ∀ vs B' H', Nx B H B' H' → RZs K H0 B' H' vs ss → Q vs H') ∨ ∃ n, o = some (.ex n) ∧ KX mg B H σ W n
def tAs (K : PySem.W.Frag) (mg : Str → Option Value) (H0 : En) (W : WX) (fs : List EF) : TA := fun σ H Q => ∃ B ρ, ER K H0 B H σ ρ ∧ OKA K mg H0 W B H σ (evs fs ρ) Q
structure PDs (X : Cx) (H0 : En) (W : WX) (es : List Expr) (fs : List EF) : Prop where
  pa : PA X es (tAs X.K X.mg H0 W fs)
section
variable {X : Cx} {H0 : En} {W : WX} {e a b c : Expr} {es : List Expr} {f g k : EF} {fs : List EF} {pos : Pos} {K : PySem.W.Frag} {B H B' H' : Hp} {σ : L2.St} {mg : Str → Option Value}
theorem pdsNil : PDs X H0 W [] [] := ⟨paWeak pa_nil fun σ H Q ⟨B, ρ, E, q⟩ => by
  rcases q with ⟨ss, h1, h2⟩ | ⟨n, h1, h2⟩
  · cases h1; exact h2 [] B H E.nx0 .nil
  · cases h1⟩
theorem pdsCons (ha : PD X H0 W e f) (hr : PDs X H0 W es fs) (hs : starEach (e :: es) X.env = (false, eval e X.env) :: starEach es X.env := by rfl) : PDs X H0 W (e :: es) (f :: fs) := ⟨paWeak (pa_cons ha.z hr.pa hs) fun σ H Q ⟨B, ρ, E, q⟩ => ⟨B, ρ, E, by
  have q' : OKA X.K X.mg H0 W B H σ (match f ρ with
    | some (.ok s) => match evs fs ρ with
      | some (.ok ss) => some (.ok (frz s :: ss))
      | r => r
    | some (.ex n) => some (.ex n)
    | none => none) Q := q
  cases r : f ρ with
  | none => rw [r] at q'; rcases q' with ⟨s, h1, h2⟩ | ⟨m, h1, h2⟩ <;> cases h1
  | some o =>
    rw [r] at q'
    cases o with
    | ex n =>
      rcases q' with ⟨s, h1, h2⟩ | ⟨m, h1, h2⟩
      · cases h1
      · cases h1; exact .inr ⟨n, rfl, h2⟩
    | ok s =>
      refine .inl ⟨s, rfl, fun v B1 H1 n1 r1 => ⟨B1, ρ, E.nx n1, ?_⟩⟩
      dsimp only at q'
      cases r2 : evs fs ρ with
      | none => rw [r2] at q'; rcases q' with ⟨s, h1, h2⟩ | ⟨m, h1, h2⟩ <;> cases h1
      | some o2 =>
        rw [r2] at q'
        cases o2 with
        | ex n =>
          rcases q' with ⟨s, h1, h2⟩ | ⟨m, h1, h2⟩
          · cases h1
          · cases h1; exact .inr ⟨n, rfl, h2.nx n1⟩
        | ok ss =>
          rcases q' with ⟨s', h1, h2⟩ | ⟨m, h1, h2⟩
          · cases h1
            exact .inl ⟨ss, rfl, fun vs B2 H2 n2 rs => h2 (v :: vs) B2 H2 (n1.trans n2) (.cons (r1.mono n2) rs)⟩
          · cases h1⟩⟩
def bzs (r : Option Ra) (k : List Sl → Option Rs) : Option Rs :=
  match r with
  | some (.ok ss) => k ss
  | some (.ex n) => some (.ex n)
  | none => none
theorem OK.bzs {r : Option Ra} {k : List Sl → Option Rs} {Q : VK} {R : List V → Hp → Prop} (h : OK K mg H0 W B H σ (PL.bzs r k) Q)
    (c : ∀ (ss : List Sl) (vs : List V) (B' H' : Hp), Nx B H B' H' → RZs K H0 B' H' vs ss → OK K mg H0 W B' H' σ (k ss) Q → R vs H') : OKA K mg H0 W B H σ r R := by
  cases r with
  | none => exact (okNone h).elim
  | some o =>
    cases o with
    | ok ss => exact .inl ⟨ss, rfl, fun vs B' H' n rz => c ss vs B' H' n rz (OK.nx h n)⟩
    | ex m =>
      rcases h with ⟨s, h1, h2⟩ | ⟨m', h1, h2⟩
      · cases h1
      · cases h1; exact .inr ⟨m, rfl, h2⟩
/-- what may be put into a new object: its freshness, its data -/
def stor : Sl → Option (Bool × PyData)
  | .val fr d => some (fr || scal d, d)
  | .brf d => if scal d = true then some (true, d) else none
  | _ => none
def stors : List Sl → Option (Bool × List PyData)
  | [] => some (true, [])
  | s :: ss => match stor s with
    | some (f, d) => match stors ss with
      | some (g, ds) => some (f && g, d :: ds)
      | none => none
    | none => none
theorem RZ.stor {v : V} {s : Sl} {fr : Bool} {d : PyData} (r : RZ K H0 B H v s) (h : PL.stor s = some (fr, d)) : Rep (LF K H0 B fr) v d := by
  cases s with
  | val f d' =>
    cases h
    cases f with
    | true => exact r
    | false =>
      rw [Bool.false_or]
      cases hs : PL.scal d with
      | true => exact Rep.scal r hs
      | false => exact r
  | brf d' =>
    unfold PL.stor at h
    dsimp only at h
    split at h
    · rename_i hs; cases h; exact Rep.scal r hs
    · cases h
  | exn _ => cases h
  | cel _ => cases h
  | und => cases h
  | own _ _ => cases h
  | full _ => cases h
  | bor _ _ => cases h
theorem RZs.stors : ∀ {vs : List V} {ss : List Sl} {fr : Bool} {ds : List PyData}, RZs K H0 B H vs ss → PL.stors ss = some (fr, ds) → RepAll (LF K H0 B fr) vs ds
  | _, _, _, _, .nil, h => by cases h; exact .nil
  | _, _, fr, ds, .cons (s := s) (ss := ss) r rs, h => by
    unfold PL.stors at h
    split at h
    · rename_i f d hd
      split at h
      · rename_i g ds' hds
        cases h
        exact .cons ((r.stor hd).mono LF.and1) ((RZs.stors rs hds).mono LF.and2)
      · cases h
    · cases h
def eList (fs : List EF) : EF := fun ρ => PL.bzs (evs fs ρ) fun ss => match PL.stors ss with
  | some (fr, ds) => if ds.length ≤ 16777216 then some (.ok (.own fr ds)) else none
  | none => none
def eTup (fs : List EF) : EF := fun ρ => PL.bzs (evs fs ρ) fun ss => match PL.stors ss with
  | some (fr, ds) => if ds.length ≤ 16777216 then some (.ok (.val fr (.tuple ds))) else none
  | none => none
theorem pdList (h : PDs X H0 W es fs) : PD X H0 W (.List es pos) (eList fs) := ⟨peWeak (pe_lst h.pa) fun σ H Q ⟨B, ρ, E, q⟩ => ⟨B, ρ, E, OK.bzs q fun ss vs B1 H1 n1 r1 q1 => by
  split at q1
  · rename_i fr ds hd
    split at q1
    · rename_i hz
      rcases q1 with ⟨s, h1, h2⟩ | ⟨m, h1, h2⟩
      · cases h1
        have ra := r1.stors hd
        exact ⟨by rw [sizeLine_eq, ra.length]; exact hz, fun p hp => h2.new n1.bh ra hp⟩
      · cases h1
    · exact (okNone q1).elim
  · exact (okNone q1).elim⟩⟩
theorem pdTup {x1 : Nat} (h : PDs X H0 W es fs) : PD X H0 W (.Tuple es x1 pos) (eTup fs) := ⟨peWeak (pe_tup h.pa) fun σ H Q ⟨B, ρ, E, q⟩ => ⟨B, ρ, E, OK.bzs q fun ss vs B1 H1 n1 r1 q1 => by
  split at q1
  · rename_i fr ds hd
    split at q1
    · rename_i hz
      rcases q1 with ⟨s, h1, h2⟩ | ⟨m, h1, h2⟩
      · cases h1
        have ra := r1.stors hd
        exact ⟨by rw [sizeLine_eq, ra.length]; exact hz, fun p hp => h2.tup (E.nx n1).e0 n1.bh ra hp⟩
      · cases h1
    · exact (okNone q1).elim
  · exact (okNone q1).elim⟩⟩
/-- an item: what is told of it -/
def mkb (d : PyData) : Sl := if scal d = true then .val true d else .brf d
def fIx (x y : Sl) : Option Sl :=
  match dat y with
  | some (.int i) => match lstR x with
    | some (fr, ds) => (atI ds i).map (mkv fr)
    | none => match tupD x with
      | some (fr, ds) => (atI ds i).map (mkv fr)
      | none => match x with
        | .brf (.list ds) => (atI ds i).map mkb
        | .brf (.tuple ds) => (atI ds i).map mkb
        | .val _ (.str z) => if z.length ≤ 16777216 then (atI z.cps.toList i).map fun c => .val true (.str ⟨#[c]⟩) else none
        | _ => none
  | _ => none
theorem atI_rep {L : Addr → HO → Prop} {vs : List V} {ds : List PyData} {i : Int} {d : PyData} (r : RepAll L vs ds) (h : atI ds i = some d) : ∃ v, atI vs i = some v ∧ Rep L v d := by
  unfold atI at h ⊢
  rw [r.length]
  cases q : ixN ds.length i with
  | none => rw [q] at h; cases h
  | some j =>
    rw [q] at h
    obtain ⟨v, h1, h2⟩ := r.at h
    exact ⟨v, h1, h2⟩
theorem mkv_rep {v : V} {fr : Bool} {d : PyData} (r : Rep (LF K H0 B fr) v d) : RR K H0 B H emp v (mkv fr d) := by
  show Rep (LF K H0 B (fr || scal d)) v d
  cases fr with
  | true => exact r
  | false =>
    rw [Bool.false_or]
    cases hs : scal d with
    | true => exact Rep.scal r hs
    | false => exact r
theorem mkb_rep {v : V} {d : PyData} (r : Rep (LN H) v d) : RR K H0 B H emp v (mkb d) := by
  unfold mkb
  split
  · rename_i hs; exact Rep.scal r hs
  · exact r
theorem op2Ix : Op2 X H0 (rIx X.K) fIx := by
  intro B H x y v w s Q e0 eB r1 r2 hf hq
  unfold fIx at hf
  split at hf
  · rename_i i hi
    have hw := (r2.data eB hi).intV
    split at hf
    · rename_i fr ds hd
      obtain ⟨p, vs, rfl, s1, a1⟩ := r1.lstR eB hd
      cases ha : atI ds i with
      | none => rw [ha] at hf; cases hf
      | some d =>
        rw [ha] at hf; cases hf
        obtain ⟨z, h1, h2⟩ := atI_rep a1 ha
        exact .inl ⟨p, vs, i, z, rfl, hw, s1, h1, hq.same eB (mkv_rep h2)⟩
    · split at hf
      · rename_i fr ds hd
        obtain ⟨p, vs, rfl, s1, a1⟩ := r1.tup eB hd
        cases ha : atI ds i with
        | none => rw [ha] at hf; cases hf
        | some d =>
          rw [ha] at hf; cases hf
          obtain ⟨z, h1, h2⟩ := atI_rep a1 ha
          exact .inr (.inl ⟨p, vs, i, z, rfl, hw, s1, h1, hq.same eB (mkv_rep h2)⟩)
      · split at hf
        · rename_i ds _ _
          cases ha : atI ds i with
          | none => rw [ha] at hf; cases hf
          | some d =>
            rw [ha] at hf; cases hf
            obtain ⟨p, vs, rfl, h1, h2⟩ := Rep.lstV r1
            obtain ⟨z, h3, h4⟩ := atI_rep h2 ha
            exact .inl ⟨p, vs, i, z, rfl, hw, SqL.of h1, h3, hq.same eB (mkb_rep h4)⟩
        · rename_i ds _ _
          cases ha : atI ds i with
          | none => rw [ha] at hf; cases hf
          | some d =>
            rw [ha] at hf; cases hf
            obtain ⟨p, vs, rfl, h1, h2⟩ := Rep.tupV r1
            obtain ⟨z, h3, h4⟩ := atI_rep h2 ha
            exact .inr (.inl ⟨p, vs, i, z, rfl, hw, SqT.of h1, h3, hq.same eB (mkb_rep h4)⟩)
        · rename_i fr z _ _
          split at hf
          · rename_i hz
            cases ha : atI z.cps.toList i with
            | none => rw [ha] at hf; cases hf
            | some c =>
              rw [ha] at hf; cases hf
              exact .inr (.inr ⟨z, i, c, Rep.strV r1, hw, by rw [sizeLine_eq]; exact hz, ha, hq.str eB⟩)
          · cases hf
        · cases hf
  · cases hf
theorem pdIx (ha : PD X H0 W a f) (hb : PD X H0 W b g) (hs : PlainIx b := by exact fun _ _ => rfl) : PD X H0 W (.Subscript a b pos) (e2 fIx f g) := pd2 ha hb op2Ix fun pa pb => pe_ix ix_seq pa pb hs
inductive Rp where
  | ok (o : Option Int)
  | ex (n : Str)
abbrev PF := Ev → Option Rp
def pN : PF := fun _ => some (.ok none)
def pS (f : EF) : PF := fun ρ => match f ρ with
  | some (.ok s) => match dat (frz s) with
    | some (.int i) => some (.ok (some i))
    | _ => none
  | some (.ex n) => some (.ex n)
  | none => none
def bp (r : Option Rp) (k : Option Int → Option Rs) : Option Rs :=
  match r with
  | some (.ok o) => k o
  | some (.ex n) => some (.ex n)
  | none => none
def cutD (ds : List PyData) (lo hi : Option Int) : List PyData := (ds.drop (HT.sIx ds.length 0 lo)).take (HT.sIx ds.length ds.length hi - HT.sIx ds.length 0 lo)
def slF (x : Sl) (l h : Option Int) : Option Rs := match lstD x with
  | some (fr, ds) => some (.ok (.own fr (cutD ds l h)))
  | none => match x with
    | .val fr (.tuple ds) => some (.ok (.val fr (.tuple (cutD ds l h))))
    | .brf (.tuple ds) => if ((cutD ds l h).all PL.scal && decide ((cutD ds l h).length < ds.length)) = true then some (.ok (.val true (.tuple (cutD ds l h)))) else none
    | _ => none
def eSl (f : EF) (lo hi : PF) : EF := fun ρ => PL.bz (f ρ) fun x => PL.bp (lo ρ) fun l => PL.bp (hi ρ) fun h => slF x l h
def fRev (x : Sl) : Option Sl := match lstD x with
  | some (fr, ds) => some (.own fr ds.reverse)
  | none => none
def CB (X : Cx) (H0 : En) (r : List V → Hp → VK → Prop) (F : List Sl → Option Sl) : Prop := ∀ (B H : Hp) (ss : List Sl) (vs : List V) (s : Sl) (Q : VK), Same H0.H H → Same B H → RZs X.K H0 B H vs ss → F ss = some s → KQ X.K H0 B H s Q → r vs H Q
def eCB (F : List Sl → Option Sl) (fs : List EF) : EF := fun ρ => PL.bzs (evs fs ρ) fun ss => okO (F ss)
theorem pdCB {r : List V → Hp → VK → Prop} {F : List Sl → Option Sl} (ha : PDs X H0 W es fs) (ho : CB X H0 r F) (hp : ∀ {ta : TA}, PA X es ta → PE X e (tCB r ta)) : PD X H0 W e (eCB F fs) := ⟨peWeak (hp ha.pa) fun σ H Q ⟨B, ρ, E, q⟩ => ⟨B, ρ, E, OK.bzs q fun ss vs B1 H1 n1 r1 q1 => by
  obtain ⟨s, h1, h2⟩ := OK.okO q1
  exact ho B1 H1 ss vs s Q (E.nx n1).e0 n1.bh r1 h1 h2⟩⟩
/-- one datum in, a scalar out -/
def D1 (X : Cx) (f : Value) (g : PyData → Option PyData) : Prop :=
  ∀ (s : Shared) (u : Value) (d r : PyData) (as : List Addr) (Q : Value → Shared → Prop), Reads s.heap u d as → d.plain = true → g d = some r → scal r = true →
    (∀ z h' tk, (∀ b o, s.heap.get? b = some o → h'.get? b = some o) → RelV (vOf r) z → Q z { s with heap := h', toks := tk }) → wpAny (model X.prog X.w) X.A (call f [u]) Q X.xe s
def rD1 (K : PySem.W.Frag) (g : PyData → Option PyData) : List V → Hp → VK → Prop := fun vs H Q => ∃ x d r, vs = [x] ∧ Rep (LH K H) x d ∧ g d = some r ∧ scal r = true ∧ Q (vOf r) H
theorem D1.call {f : Value} {g : PyData → Option PyData} (h : D1 X f g) : CallR X f (rD1 X.K g) := by
  intro pins s σ H xs us Q I r ⟨x, d, y, e1, h1, h2, h3, q⟩
  subst e1
  obtain ⟨u, rfl, rx⟩ := vals1 r
  obtain ⟨as, r1⟩ := h1.reads I rx
  exact h s u d y as _ r1 h1.plain h2 h3 fun z h' tk hk hz => ⟨_, H, I.kept hk, hz, q⟩
def fD1 (g : PyData → Option PyData) (ss : List Sl) : Option Sl :=
  match ss with
  | [x] => match dat x with
    | some d => match g d with
      | some r => if scal r = true then some (.val true r) else none
      | none => none
    | none => none
  | _ => none
theorem cbD1 (g : PyData → Option PyData) : CB X H0 (rD1 X.K g) (fD1 g) := by
  intro B H ss vs s Q e0 eB r hf hq
  unfold fD1 at hf
  split at hf
  · rename_i x
    cases r with
    | cons r rs =>
      cases rs
      split at hf
      · rename_i d hd
        split at hf
        · rename_i y hy
          split at hf
          · rename_i hs
            cases hf
            exact ⟨_, d, y, rfl, r.data eB hd, hy, hs, hq.scal eB hs⟩
          · cases hf
        · cases hf
      · cases hf
  · cases hf
theorem cr1 {f : Value} {r : List V → Hp → VK → Prop} {g : PyData → Option PyData} (h : CallR X f r) (i : ∀ K H x d y (Q : VK), K = X.K → Rep (LH K H) x d → g d = some y → Q (vOf y) H → r [x] H Q) : CallR X f (rD1 X.K g) := by
  intro pins s σ H xs us Q I rv ⟨x, d, y, e1, h1, h2, h3, q⟩
  subst e1
  exact h pins s σ H [x] us Q I rv (i _ H x d y Q rfl h1 h2 q)
def gLen (d : PyData) : Option PyData := match d with
  | .list xs => some (.int xs.length)
  | .tuple xs => some (.int xs.length)
  | .str x => if x.length ≤ 16777216 then some (.int x.length) else none
  | _ => none
theorem crLen : CallR X (.builtin "len") (rD1 X.K gLen) := cr1 (call_len_seq.or call_len_str) fun K H x d y Q e r h q => by
  subst e
  cases r with
  | lst e r => cases h; exact .inl ⟨_, _, rfl, .inl e, by rw [r.length]; exact q⟩
  | tup e r => cases h; exact .inl ⟨_, _, rfl, .inr e, by rw [r.length]; exact q⟩
  | str x =>
    unfold gLen at h
    dsimp only at h
    split at h
    · rename_i hz; cases h; exact .inr ⟨x, rfl, by rw [sizeLine_eq]; exact hz, q⟩
    · cases h
  | non => cases h
  | bl _ => cases h
  | int _ => cases h
def gAbs (d : PyData) : Option PyData := match d with | .int i => some (.int (if i < 0 then -i else i)) | _ => none
theorem crAbs : CallR X (.builtin "abs") (rD1 X.K gAbs) := cr1 call_abs fun K H x d y Q e r h q => by
  cases r <;> first | cases h | skip
  exact ⟨_, rfl, q⟩
def gInt (d : PyData) : Option PyData := match d with | .int i => some (.int i) | .bool b => some (.int (if b then 1 else 0)) | _ => none
theorem crInt : CallR X (.type "int") (rD1 X.K gInt) := cr1 call_int1 fun K H x d y Q e r h q => by
  cases r <;> first | cases h | skip
  · exact .inr ⟨_, rfl, q⟩
  · exact .inl ⟨_, rfl, q⟩
end
end PL
namespace PL
open PySem PySem.Spec PyProof.Rows L2
inductive Out where
  | nx (ρ : Ev)
  | rt (s : Sl)
  | bk (ρ : Ev)
  | ct (ρ : Ev)
  | ex (n : Str) (ρ : Ev)
abbrev SF := Ev → Option Out
/-- what is wanted behind o, from (B, H) -/
def OUT (K : PySem.W.Frag) (mg : Str → Option Value) (H0 : En) (W : WX) (B : Hp) (o : Out) (D : Ends) : Prop :=
  match o with
  | .nx ρ => ∀ σ B' H', ER K H0 B' H' σ ρ → Same B B' → D.nx σ H'
  | .bk ρ => ∀ σ B' H', ER K H0 B' H' σ ρ → Same B B' → D.bk σ H'
  | .ct ρ => ∀ σ B' H', ER K H0 B' H' σ ρ → Same B B' → D.ct σ H'
  | .rt s => ∀ v σ ρ B' H' T, ER K H0 B' H' σ ρ → Same B B' → Same T H' → (∀ a, T a ≠ none → B' a = none ∧ H0.H a = none) → RR K H0 B' H' T v s → D.rt v H'
  | .ex n ρ => ∀ c σ B' H', mg n = some c → ER K H0 B' H' σ ρ → Same B B' → W c none σ H'
theorem OUT.same {K : PySem.W.Frag} {mg : Str → Option Value} {H0 : En} {W : WX} {B B' : Hp} {o : Out} {D : Ends} (h : OUT K mg H0 W B o D) (e : Same B B') : OUT K mg H0 W B' o D := by
  cases o with
  | nx ρ => exact fun σ B2 H2 E s => h σ B2 H2 E (e.trans s)
  | bk ρ => exact fun σ B2 H2 E s => h σ B2 H2 E (e.trans s)
  | ct ρ => exact fun σ B2 H2 E s => h σ B2 H2 E (e.trans s)
  | rt s => exact fun v σ ρ B2 H2 T E s t1 t2 r => h v σ ρ B2 H2 T E (e.trans s) t1 t2 r
  | ex n ρ => exact fun c σ B2 H2 hc E s => h c σ B2 H2 hc E (e.trans s)
def tS (K : PySem.W.Frag) (mg : Str → Option Value) (H0 : En) (W : WX) (f : SF) : TS := fun D σ H => ∃ B ρ o, ER K H0 B H σ ρ ∧ f ρ = some o ∧ OUT K mg H0 W B o D
structure PSD (X : Cx) (H0 : En) (W : WX) (st : Stmt) (f : SF) : Prop where
  ps : PS X st (tS X.K X.mg H0 W f)
structure PSDs (X : Cx) (H0 : En) (W : WX) (st : List Stmt) (f : SF) : Prop where
  pss : PSs X st (tS X.K X.mg H0 W f)
/-- the continuation of a statement's expression -/
def bS (r : Option Rs) (ρ : Ev) (k : Sl → Option Out) : Option Out :=
  match r with
  | some (.ok s) => k s
  | some (.ex n) => some (.ex n ρ)
  | none => none
def bSz (r : Option Rs) (ρ : Ev) (k : Sl → Option Out) : Option Out :=
  match r with
  | some (.ok s) => k (frz s)
  | some (.ex n) => some (.ex n ρ)
  | none => none
section
variable {X : Cx} {H0 : En} {W : WX} {e a b c : Expr} {es : List Expr} {f g k : EF} {fs : List EF} {pos : Pos} {K : PySem.W.Frag} {B H B' H' : Hp} {σ : L2.St} {mg : Str → Option Value} {ρ : Ev} {D : Ends} {st : Stmt} {sts rest : List Stmt} {F G : SF} {t : BF}
theorem kx_of (E : ER K H0 B H σ ρ) {n : Str} (h : OUT K mg H0 W B (.ex n ρ) D) : KX mg B H σ W n := fun c B' H' hc n' => h c σ B' H' hc (E.nx n') n'.b
theorem bS_ok {r : Option Rs} {kk : Sl → Option Out} {o : Out} {R : VK} (E : ER K H0 B H σ ρ) (h : bS r ρ kk = some o) (ho : OUT K mg H0 W B o D)
    (c : ∀ s v B' H' T, Nx B H B' H' → TF H B' H' T → RR K H0 B' H' T v s → kk s = some o → OUT K mg H0 W B' o D → R v H') : OK K mg H0 W B H σ r R := by
  cases r with
  | none => cases h
  | some q =>
    cases q with
    | ok s => exact .inl ⟨s, rfl, fun v B' H' T n t r => c s v B' H' T n t r h (ho.same n.b)⟩
    | ex n => cases h; exact .inr ⟨n, rfl, kx_of E ho⟩
theorem bSz_ok {r : Option Rs} {kk : Sl → Option Out} {o : Out} {R : VK} (E : ER K H0 B H σ ρ) (h : bSz r ρ kk = some o) (ho : OUT K mg H0 W B o D)
    (c : ∀ s v B' H', Nx B H B' H' → RZ K H0 B' H' v s → kk s = some o → OUT K mg H0 W B' o D → R v H') : OKZ K mg H0 W B H σ r R := by
  cases r with
  | none => cases h
  | some q =>
    cases q with
    | ok s => exact .inl ⟨s, rfl, fun v B' H' n r => c (frz s) v B' H' n r h (ho.same n.b)⟩
    | ex n => cases h; exact .inr ⟨n, rfl, kx_of E ho⟩
def sNil : SF := fun ρ => some (.nx ρ)
def sSeq (f g : SF) : SF := fun ρ => match f ρ with
  | some (.nx ρ') => g ρ'
  | r => r
theorem psdsNil : PSDs X H0 W [] sNil := ⟨pssWeak pss_nil fun D σ H ⟨B, ρ, o, E, h, ho⟩ => by cases h; exact ho σ B H E (Same.refl _)⟩
theorem seq_out {o : Out} (h : sSeq F G ρ = some o) (ho : OUT K mg H0 W B o D) : ∃ o1, F ρ = some o1 ∧ OUT K mg H0 W B o1 { D with nx := tS K mg H0 W G D } := by
  unfold sSeq at h
  cases r : F ρ with
  | none => rw [r] at h; cases h
  | some o1 =>
    rw [r] at h
    refine ⟨o1, rfl, ?_⟩
    cases o1 with
    | nx ρ' => exact fun σ B' H' E s => ⟨B', ρ', o, E, h, ho.same s⟩
    | rt s => cases h; exact ho
    | bk ρ' => cases h; exact ho
    | ct ρ' => cases h; exact ho
    | ex n ρ' => cases h; exact ho
theorem psdsCons (h1 : PSD X H0 W st F) (h2 : PSDs X H0 W rest G) : PSDs X H0 W (st :: rest) (sSeq F G) := ⟨pssWeak (pss_cons h1.ps h2.pss) fun D σ H ⟨B, ρ, o, E, h, ho⟩ => by
  obtain ⟨o1, q1, q2⟩ := seq_out h ho
  exact ⟨B, ρ, o1, E, q1, q2⟩⟩
theorem psdsOne (h1 : PSD X H0 W st F) : PSDs X H0 W [st] F := ⟨pss_one h1.ps⟩
/-- a ghost step ahead of a block -/
theorem psdsGhost (g : Ev → Option Ev) (hg : ∀ B H σ ρ ρ', ER X.K H0 B H σ ρ → g ρ = some ρ' → ∃ B', ER X.K H0 B' H σ ρ' ∧ Same B B') (h : PSDs X H0 W sts F) : PSDs X H0 W sts (fun ρ => match g ρ with | some ρ' => F ρ' | none => none) := ⟨pssWeak h.pss fun D σ H ⟨B, ρ, o, E, h, ho⟩ => by
  dsimp only at h
  cases r : g ρ with
  | none => rw [r] at h; cases h
  | some ρ' =>
    rw [r] at h
    obtain ⟨B', E', s⟩ := hg B H σ ρ ρ' E r
    exact ⟨B', ρ', o, E', h, ho.same s⟩⟩
def sPass : SF := fun ρ => some (.nx ρ)
def sBreak : SF := fun ρ => some (.bk ρ)
theorem psdBreak : PSD X H0 W (.Break pos) sBreak := ⟨psWeak ps_break fun D σ H ⟨B, ρ, o, E, h, ho⟩ => by cases h; exact ho σ B H E (Same.refl _)⟩
def sCont : SF := fun ρ => some (.ct ρ)
def sExpr (f : EF) : SF := fun ρ => bSz (f ρ) ρ fun _ => some (.nx ρ)
theorem psdExpr (he : PD X H0 W e f) (hs : swapsWith e none pos.line X.env = pure false := by rfl) : PSD X H0 W (.Expr e pos) (sExpr f) := ⟨psWeak (ps_expr he.z hs) fun D σ H ⟨B, ρ, o, E, h, ho⟩ => ⟨B, ρ, E, bSz_ok E h ho fun s v B' H' n r q ho' => by
  cases q; exact ho' σ B' H' (E.nx n) (Same.refl _)⟩⟩
def sRet (f : EF) : SF := fun ρ => bS (f ρ) ρ fun s => if stb s = true then some (.rt s) else none
theorem psdRet (he : PD X H0 W e f) : PSD X H0 W (.Return (some e) pos) (sRet f) := ⟨psWeak (ps_ret he.pe) fun D σ H ⟨B, ρ, o, E, h, ho⟩ => ⟨B, ρ, E, bS_ok E h ho fun s v B' H' T n t r q ho' => by
  split at q
  · cases q
    exact ho' v σ ρ B' H' T (E.nx n) (Same.refl _) t.s (fun a ha => ⟨(t.n a ha).2, E.e0.free (t.n a ha).1⟩) r
  · cases q⟩⟩
/-- return x, x an own list -/
def sRetOwn (i : Nat) : SF := fun ρ => match ρ[i]? with
  | some (.own fr ds) => some (.rt (.own fr ds))
  | some (.full d) => some (.rt (.full d))
  | some (.val fr d) => some (.rt (.val fr d))
  | _ => none
theorem psdRetOwn {i : Nat} (h : PE X e (tVar i)) : PSD X H0 W (.Return (some e) pos) (sRetOwn i) := ⟨psWeak (ps_ret h) fun D σ H ⟨B, ρ, o, E, h, ho⟩ => by
  obtain ⟨F, f1, f2, f3, f4⟩ := E.ex
  unfold sRetOwn at h
  split at h
  · rename_i fr ds hr
    cases h
    obtain ⟨p, vs, e1, e2, r1⟩ := f4 i _ hr
    exact ⟨_, e1, ho _ σ ρ B H (F i) E (Same.refl _) (f1 i) (f2 i) ⟨p, vs, rfl, e2, r1⟩⟩
  · rename_i d hr
    cases h
    obtain ⟨v, e1, r1⟩ := f4 i _ hr
    exact ⟨_, e1, ho _ σ ρ B H (F i) E (Same.refl _) (f1 i) (f2 i) r1⟩
  · rename_i fr d hr
    cases h
    obtain ⟨v, e1, r1⟩ := f4 i _ hr
    exact ⟨_, e1, ho _ σ ρ B H emp E (Same.refl _) (fun _ _ z => nomatch z) (fun _ z => absurd rfl z) r1⟩
  · cases h⟩
def sRetN : SF := fun _ => some (.rt (.val true .none))
def sIf (t : BF) (F G : SF) : SF := fun ρ => match t ρ with
  | some (.ok true) => F ρ
  | some (.ok false) => G ρ
  | some (.ex n) => some (.ex n ρ)
  | none => none
theorem psdIf {A1 A2 : List Stmt} (hc : PB X H0 W c t) (ha : PSDs X H0 W A1 F) (hb : PSDs X H0 W A2 G) : PSD X H0 W (.If c A1 A2 pos) (sIf t F G) := ⟨psWeak (ps_if hc.pt ha.pss hb.pss) fun D σ H ⟨B, ρ, o, E, h, ho⟩ => ⟨B, ρ, E, by
  unfold sIf at h
  cases r : t ρ with
  | none => rw [r] at h; cases h
  | some q =>
    rw [r] at h
    cases q with
    | ok b =>
      refine .inl ⟨b, rfl, fun B' H' n => ?_⟩
      cases b with
      | true => rw [if_pos rfl]; exact ⟨B', ρ, o, E.nx n, h, ho.same n.b⟩
      | false => rw [if_neg Bool.false_ne_true]; exact ⟨B', ρ, o, E.nx n, h, ho.same n.b⟩
    | ex n => cases h; exact .inr ⟨n, rfl, kx_of E ho⟩⟩⟩
def sSet (i : Nat) (f : EF) : SF := fun ρ => bS (f ρ) ρ fun s => if stb s = true then some (.nx (ρ.set i s)) else none
def sSetZ (i : Nat) (f : EF) : SF := fun ρ => bSz (f ρ) ρ fun s => if stb s = true then some (.nx (ρ.set i s)) else none
theorem RZ.rr {v : V} {s : Sl} (r : RZ K H0 B H v s) : RR K H0 B H emp v s := by
  cases s with
  | und => exact r
  | own _ _ => exact r.elim
  | full _ => exact r.elim
  | val _ _ => exact r
  | bor _ _ => exact r
  | brf _ => exact r
  | exn _ => exact r.elim
  | cel _ => exact r
theorem psdSet {i : Nat} {x : Str} {pos' : Pos} (hN : X.N.Nodup) (hi : X.N[i]? = some x) (hx : Loc X.env.scope x) (he : PD X H0 W e f) (hs : swapsWith e (some (.Name x pos')) pos.line X.env = pure false := by rfl) (hf : X.fn x = true ∨ X.env.scope.names.lookup x = some .local := by first | exact .inl rfl | exact .inr rfl | assumption) :
    PSD X H0 W (.Assign [.Name x pos'] e pos) (sSet i f) := ⟨psWeak (ps_set hN hi hx he.pe hs hf) fun D σ H ⟨B, ρ, o, E, h, ho⟩ => ⟨B, ρ, E, bS_ok E h ho fun s v B' H' T n t r q ho' => by
  split at q
  · rename_i hs; cases q
    exact ho' _ B' H' (E.set n t r hs) (Same.refl _)
  · cases q⟩⟩
theorem psdSetZ {i : Nat} {x : Str} {pos' : Pos} (hN : X.N.Nodup) (hi : X.N[i]? = some x) (hx : Loc X.env.scope x) (he : PD X H0 W e f) (hs : swapsWith e (some (.Name x pos')) pos.line X.env = pure false := by rfl) (hf : X.fn x = true ∨ X.env.scope.names.lookup x = some .local := by first | exact .inl rfl | exact .inr rfl | assumption) :
    PSD X H0 W (.Assign [.Name x pos'] e pos) (sSetZ i f) := ⟨psWeak (ps_set hN hi hx he.z hs hf) fun D σ H ⟨B, ρ, o, E, h, ho⟩ => ⟨B, ρ, E, bSz_ok E h ho fun s v B' H' n r q ho' => by
  split at q
  · rename_i hs; cases q
    exact ho' _ B' H' (E.set n TF.emp r.rr hs) (Same.refl _)
  · cases q⟩⟩
/-- x op= e, of scalars -/
def sAug (i : Nat) (F : PyData → PyData → Option PyData) (f : EF) : SF := fun ρ => bSz (eVar i ρ) ρ fun x => bSz (f ρ) ρ fun y => match fD F x y with
  | some s => some (.nx (ρ.set i s))
  | none => none
abbrev GF := Sl → Ev → Option Ev
def tG (K : PySem.W.Frag) (H0 : En) (t : GF) : TG := fun v σ H Q => ∃ B ρ s ρ', ER K H0 B H σ ρ ∧ RZ K H0 B H v s ∧ t s ρ = some ρ' ∧ ∀ σ', ER K H0 B H σ' ρ' → Q σ' H
structure PGD (X : Cx) (H0 : En) (e : Expr) (t : GF) : Prop where
  pg : PG X e (tG X.K H0 t)
theorem pgWeak {t t' : TG} (h : PG X e t) (i : ∀ v σ H Q, t' v σ H Q → t v σ H Q) : PG X e t' := ⟨fun pins s σ H v u Q I r q => h.run pins s σ H v u Q I r (i v σ H Q q)⟩
def gN (i : Nat) : GF := fun s ρ => if stb s = true then some (ρ.set i s) else none
theorem pgdName {i : Nat} {x : Str} (hN : X.N.Nodup) (hi : X.N[i]? = some x) (hx : Loc X.env.scope x) (hf : X.fn x = true ∨ X.env.scope.names.lookup x = some .local := by first | exact .inl rfl | exact .inr rfl | assumption) : PGD X H0 (.Name x pos) (gN i) := ⟨pgWeak (pg_name hN hi hx hf) fun v σ H Q ⟨B, ρ, s, ρ', E, r, h, q⟩ => by
  unfold gN at h
  split at h
  · rename_i hs; cases h
    exact q _ (E.set E.nx0 TF.emp r.rr hs)
  · cases h⟩
/-- several names, the values given -/
def gSets : List Nat → List Sl → Ev → Option Ev
  | [], [], ρ => some ρ
  | i :: is, s :: ss, ρ => if stb s = true then gSets is ss (ρ.set i s) else none
  | _, _, _ => none
def tGs (K : PySem.W.Frag) (H0 : En) (is : List Nat) : TGs := fun vs σ H Q => ∃ B ρ ss ρ', ER K H0 B H σ ρ ∧ RZs K H0 B H vs ss ∧ gSets is ss ρ = some ρ' ∧ ∀ σ', ER K H0 B H σ' ρ' → Q σ' H
structure PGDs (X : Cx) (H0 : En) (es : List Expr) (is : List Nat) : Prop where
  pgs : PGs X es (tGs X.K H0 is)
theorem pgdsNil : PGDs X H0 [] [] := ⟨⟨fun pins s σ H vs us Q I r ⟨B, ρ, ss, ρ', E, rz, h, q⟩ => by
  cases ss with
  | cons _ _ => cases h
  | nil => cases h; cases rz; exact pgs_nil.run pins s σ H [] us Q I r ⟨rfl, q σ E⟩⟩⟩
theorem pgdsCons {i : Nat} {is : List Nat} {x : Str} (hN : X.N.Nodup) (hi : X.N[i]? = some x) (hx : Loc X.env.scope x) (h2 : PGDs X H0 es is) (hf : X.fn x = true ∨ X.env.scope.names.lookup x = some .local := by first | exact .inl rfl | exact .inr rfl | assumption)
    (hs : (assignEach (.Name x pos :: es) X.env).map (·.2) = assign (.Name x pos) X.env :: (assignEach es X.env).map (·.2) := by rfl) : PGDs X H0 (.Name x pos :: es) (i :: is) := ⟨⟨fun pins s σ H vs us Q I r ⟨B, ρ, ss, ρ', E, rz, h, q⟩ => by
  cases rz with
  | nil => cases h
  | @cons v vs' s1 ss' r1 rs =>
    unfold gSets at h
    split at h
    · rename_i hs1
      exact (pgs_cons (pg_name hN hi hx hf) h2.pgs hs).run pins s σ H _ us Q I r ⟨v, vs', rfl, B, _, ss', ρ', E.set E.nx0 TF.emp r1.rr hs1, rs, h, q⟩
    · cases h⟩⟩
/-- a tuple's items -/
def itemsT (s : Sl) : Option (List Sl) :=
  match tupD s with
  | some (fr, ds) => some (ds.map (mkv fr))
  | none => none
theorem rzs_map {fr : Bool} : ∀ {vs : List V} {ds : List PyData}, RepAll (LF K H0 B fr) vs ds → RZs K H0 B H vs (ds.map (mkv fr))
  | _, _, .nil => .nil
  | _, _, .cons r rs => .cons (mkv_rep (H := H) r) (rzs_map rs)
def gT (is : List Nat) : GF := fun s ρ => match itemsT s with
  | some ss => gSets is ss ρ
  | none => none
theorem gSets_len : ∀ {is : List Nat} {ss : List Sl} {ρ ρ' : Ev}, gSets is ss ρ = some ρ' → ss.length = is.length
  | [], [], _, _, _ => rfl
  | i :: is, s :: ss, ρ, ρ', h => by
    unfold gSets at h
    split at h
    · exact congrArg (· + 1) (gSets_len h)
    · cases h
  | [], _ :: _, _, _, h => by cases h
  | _ :: _, [], _, _, h => by cases h
theorem pgdTup {is : List Nat} {k : Nat} (hc : X.calm = true) (h : PGDs X H0 es is) (hn : (assignEach es X.env).length = is.length := by rfl) (hst : (assignEach es X.env).findIdx? (·.1) = none := by rfl) : PGD X H0 (.Tuple es k pos) (gT is) := ⟨pgWeak (pg_tup hc h.pgs hn hst) fun v σ H Q ⟨B, ρ, s, ρ', E, r, hh, q⟩ => by
  unfold gT itemsT at hh
  split at hh
  · rename_i ss hss
    split at hss
    · rename_i fr ds hd
      cases hss
      obtain ⟨p, vs, rfl, s1, a1⟩ := r.tup E.eB hd
      have hl := gSets_len hh
      rw [List.length_map] at hl
      exact ⟨p, vs, rfl, s1, by rw [a1.length, hl], B, ρ, _, ρ', E, rzs_map a1, hh, q⟩
    · cases hss
  · cases hh⟩
def sUnp (is : List Nat) (f : EF) : SF := fun ρ => bSz (f ρ) ρ fun s => match gT is s ρ with
  | some ρ' => some (.nx ρ')
  | none => none
theorem psdUnp {is : List Nat} {tg : Expr} (he : PD X H0 W e f) (hg : PGD X H0 tg (gT is)) (hs : swapsWithSole [tg] e pos.line X.env = pure false := by rfl) (hw : swappedStores [tg] e X.env = pure none := by rfl) (h1 : (assignEach [tg] X.env).map (·.2) = [assign tg X.env] := by rfl) :
    PSD X H0 W (.Assign [tg] e pos) (sUnp is f) := ⟨psWeak (ps_asg he.z hg.pg hs hw h1) fun D σ H ⟨B, ρ, o, E, h, ho⟩ => ⟨B, ρ, E, bSz_ok E h ho fun s v B' H' n r q ho' => by
  split at q
  · rename_i ρ' hr
    cases q
    exact ⟨B', ρ, s, ρ', E.nx n, r, hr, fun σ' E2 => ho' σ' B' H' E2 (Same.refl _)⟩
  · cases q⟩⟩
inductive Ri where
  | ok (its : List Sl)
  | ex (n : Str)
abbrev IF := Ev → Option Ri
structure ItOk (K : PySem.W.Frag) (H0 : En) (B : Hp) (J : It) (its : List Sl) : Prop where
  go : ∀ i B' H', Same B B' → Same B' H' → i < its.length → J.go i H'
  yld : ∀ i B' H' x H'' s, Same B B' → Same B' H' → Same H0.H H' → its[i]? = some s → J.yld i H' x H'' → ∃ B'', Nx B' H' B'' H'' ∧ RZ K H0 B'' H'' x s
  stop : ∀ i B' H', Same B B' → Same B' H' → its.length ≤ i → J.stop i H'
def tI (K : PySem.W.Frag) (mg : Str → Option Value) (H0 : En) (W : WX) (g : IF) : TI := fun σ H R => ∃ B ρ, ER K H0 B H σ ρ ∧
  ((∃ its, g ρ = some (.ok its) ∧ ∀ J B' H', Nx B H B' H' → ItOk K H0 B' J its → R J H') ∨ ∃ n, g ρ = some (.ex n) ∧ KX mg B H σ W n)
structure PID (X : Cx) (H0 : En) (W : WX) (tg e : Expr) (g : IF) : Prop where
  pi : PI X tg e (tI X.K X.mg H0 W g)
/-- a frozen list's items -/
def iL (f : EF) : IF := fun ρ => match f ρ with
  | some (.ok s) => match frz s with
    | .val fr (.list ds) => some (.ok (ds.map (mkv fr)))
    | _ => none
  | some (.ex n) => some (.ex n)
  | none => none
theorem map_at {α β : Type} {f : α → β} {l : List α} {i : Nat} {b : β} (h : (l.map f)[i]? = some b) : ∃ a, l[i]? = some a ∧ b = f a := by
  rw [List.getElem?_map] at h
  cases q : l[i]? with
  | none => rw [q] at h; cases h
  | some a => rw [q] at h; exact ⟨a, rfl, (Option.some.inj h).symm⟩
theorem itl_ok {fr : Bool} {p : Addr} {vs : List V} {ds : List PyData} (s : SqL K B p vs) (r : RepAll (LF K H0 B fr) vs ds) : ItOk K H0 B (Itl K p) (ds.map (mkv fr)) where
  go := fun i B' H' h1 h2 hi => by
    rw [List.length_map, ← r.length] at hi
    exact ⟨vs, vs[i], Same.seq h2 (Same.seq h1 s), by simp [hi]⟩
  yld := fun i B' H' x H'' u h1 h2 h3 hu hy => by
    obtain ⟨rfl, hy⟩ := hy
    obtain ⟨d, hd, rfl⟩ := map_at hu
    obtain ⟨v, hv, rv⟩ := r.at hd
    have e := hy vs (Same.seq h2 (Same.seq h1 s))
    rw [hv] at e
    cases e
    exact ⟨B', Nx.refl h2, mkv_rep (H := H'') (rv.mono (LF.mono h1))⟩
  stop := fun i B' H' h1 h2 hi => by
    rw [List.length_map, ← r.length] at hi
    exact ⟨vs, Same.seq h2 (Same.seq h1 s), hi⟩
theorem LF.sq {fr : Bool} {p : Addr} {vs : List V} (h : LF K H0 B fr p (.lst vs)) : SqL K B p vs := by
  cases fr with
  | true => exact SqL.of (nw_same _ _ h)
  | false => exact h
theorem pidL {tg : Expr} (he : PD X H0 W e f) : PID X H0 W tg e (iL f) := ⟨piWeak (pi_list he.z) fun σ H R ⟨B, ρ, E, q⟩ => ⟨B, ρ, E, by
  unfold iL at q
  cases r : f ρ with
  | none => rw [r] at q; rcases q with ⟨s, h1, h2⟩ | ⟨m, h1, h2⟩ <;> cases h1
  | some o =>
    rw [r] at q
    cases o with
    | ex n =>
      rcases q with ⟨s, h1, h2⟩ | ⟨m, h1, h2⟩
      · cases h1
      · cases h1; exact .inr ⟨n, rfl, h2⟩
    | ok s =>
      refine .inl ⟨s, rfl, fun v B1 H1 n1 r1 => ?_⟩
      dsimp only at q
      split at q
      · rename_i fr ds hz
        rw [hz] at r1
        obtain ⟨p, vs, rfl, s1, a1⟩ := Rep.lstV r1
        rcases q with ⟨its, h1, h2⟩ | ⟨m, h1, h2⟩
        · cases h1
          exact ⟨p, rfl, ⟨vs, LF.toH n1.bh p _ s1⟩, h2 _ B1 H1 n1 (itl_ok (LF.sq s1) a1)⟩
        · cases h1
      · rcases q with ⟨s, h1, h2⟩ | ⟨m, h1, h2⟩ <;> cases h1⟩⟩
/-- lo, lo + 1, .. below hi -/
def rngI (lo hi : Int) : List Sl := (List.range (hi - lo).toNat).map fun (i : Nat) => .val true (.int (lo + (i : Int)))
theorem itr_ok (lo hi : Int) : ItOk K H0 B (Itr lo (hi - lo).toNat) (rngI lo hi) where
  go := fun i B' H' h1 h2 h => by unfold rngI at h; rw [List.length_map, List.length_range] at h; exact h
  yld := fun i B' H' x H'' s h1 h2 h3 hu hy => by
    obtain ⟨rfl, rfl⟩ := hy
    obtain ⟨j, hj, rfl⟩ := map_at hu
    have : j = i := by
      obtain ⟨h, e⟩ := List.getElem?_eq_some_iff.mp hj
      rw [List.getElem_range] at e; exact e.symm
    subst this
    exact ⟨B', Nx.refl h2, .int _⟩
  stop := fun i B' H' h1 h2 h => by unfold rngI at h; rw [List.length_map, List.length_range] at h; exact h
noncomputable def small62 (i : Int) : Bool := cd (-(4611686018427387904) ≤ i ∧ i < 4611686018427387904)
noncomputable def iR (fs : List EF) : IF := fun ρ => match evs fs ρ with
  | some (.ok ss) => match ss.map dat with
    | [some (.int j)] => if small62 j = true then some (.ok (rngI 0 j)) else none
    | [some (.int i), some (.int j)] => if small62 i = true ∧ small62 j = true then some (.ok (rngI i j)) else none
    | _ => none
  | some (.ex n) => some (.ex n)
  | none => none
theorem small_ok {i : Int} (h : small62 i = true) : -(2 ^ 62) ≤ i ∧ i < 2 ^ 62 := by have := of_cd h; simpa using this
theorem ir_ok {fs : List EF} {R : It → Hp → Prop} (E : ER K H0 B H σ ρ) (q : (∃ its, iR fs ρ = some (.ok its) ∧ ∀ J B' H', Nx B H B' H' → ItOk K H0 B' J its → R J H') ∨ ∃ n, iR fs ρ = some (.ex n) ∧ KX mg B H σ W n) :
    OKA K mg H0 W B H σ (evs fs ρ) fun vs H1 => (∃ j : Int, vs = [.int j] ∧ small62 j = true ∧ R (Itr 0 j.toNat) H1) ∨ ∃ i j : Int, vs = [.int i, .int j] ∧ small62 i = true ∧ small62 j = true ∧ R (Itr i (j - i).toNat) H1 := by
  unfold iR at q
  cases r : evs fs ρ with
  | none => rw [r] at q; rcases q with ⟨s, h1, h2⟩ | ⟨m, h1, h2⟩ <;> cases h1
  | some o =>
    rw [r] at q
    cases o with
    | ex n =>
      rcases q with ⟨s, h1, h2⟩ | ⟨m, h1, h2⟩
      · cases h1
      · cases h1; exact .inr ⟨n, rfl, h2⟩
    | ok ss =>
      refine .inl ⟨ss, rfl, fun vs B1 H1 n1 rs => ?_⟩
      dsimp only at q
      split at q
      · rename_i j hj
        split at q
        · rename_i hs
          rcases q with ⟨its, h1, h2⟩ | ⟨m, h1, h2⟩
          · cases h1
            cases rs with
            | nil => cases hj
            | cons r1 rs =>
              cases rs with
              | cons _ _ => simp at hj
              | nil =>
                simp only [List.map_cons, List.map_nil, List.cons.injEq, and_true] at hj
                refine .inl ⟨j, by rw [(r1.data n1.bh hj).intV], hs, ?_⟩
                have := h2 _ B1 H1 n1 (itr_ok 0 j)
                simpa using this
          · cases h1
        · rcases q with ⟨s, h1, h2⟩ | ⟨m, h1, h2⟩ <;> cases h1
      · rename_i i j hj
        split at q
        · rename_i hs
          rcases q with ⟨its, h1, h2⟩ | ⟨m, h1, h2⟩
          · cases h1
            cases rs with
            | nil => cases hj
            | cons r1 rs =>
              cases rs with
              | nil => simp at hj
              | cons r2 rs =>
                cases rs with
                | cons _ _ => simp at hj
                | nil =>
                  simp only [List.map_cons, List.map_nil, List.cons.injEq, and_true] at hj
                  exact .inr ⟨i, j, by rw [(r1.data n1.bh hj.1).intV, (r2.data n1.bh hj.2).intV], hs.1, hs.2, h2 _ B1 H1 n1 (itr_ok i j)⟩
          · cases h1
        · rcases q with ⟨s, h1, h2⟩ | ⟨m, h1, h2⟩ <;> cases h1
      · rcases q with ⟨s, h1, h2⟩ | ⟨m, h1, h2⟩ <;> cases h1
theorem pidR1 {tg : Expr} {p : Pos} (hm : X.mg "range" = none) (ha : PDs X H0 W [a] [f]) (hg : Gl X "range" := by rfl) (hs : starEach [a] X.env = [(false, eval a X.env)] := by rfl) : PID X H0 W tg (.Call (.Name "range" p) [a] [] pos) (iR [f]) := ⟨piWeak (pi_range1 hg hm ha.pa hs) fun σ H R ⟨B, ρ, E, q⟩ => ⟨B, ρ, E, by
  have z := ir_ok E q
  have one : ∀ ss, evs [f] ρ = some (.ok ss) → ss.length = 1 := fun ss h => by
    unfold evs at h
    split at h
    · unfold evs at h; cases h; rfl
    · cases h
    · cases h
  rcases z with ⟨ss, h1, h2⟩ | ⟨n, h1, h2⟩
  · refine .inl ⟨ss, h1, fun vs B' H' n rs => ?_⟩
    rcases h2 vs B' H' n rs with ⟨j, e, s, r⟩ | ⟨i, j, e, s, s', r⟩
    · exact ⟨j, e, (small_ok s).1, (small_ok s).2, r⟩
    · exfalso
      have l1 := one ss h1
      subst e
      cases rs with
      | cons _ rs => cases rs with
        | cons _ rs => cases rs; simp at l1
  · exact .inr ⟨n, h1, h2⟩⟩⟩
end
end PL
namespace PL
open PySem PySem.Spec PyProof.Rows L2
structure FG (P : Program) (w : World) (K : PySem.W.Frag) (mg : Str → Option Value) (base : Heap) (k : Nat) (f : Addr) (fd : FuncData) (ps : List Str) (sp : Sp) : Prop where
  len : ∀ vs H Q E, sp vs H Q E → vs.length = ps.length
  go : ∀ (A : Around) (outer : List Env) (s : Shared) (H : Hp) (args : Args) (us : List Value) (vs : List V) (Q : VK) (E : XK), Room k A → A.guards = some [] → Env0 P w K mg base A outer s H → BindsTo s fd args (ps.zip us) → Vals vs us → sp vs H Q E →
    codeAny (model P w) A (.call (.ref f) args) (CR (L2N.CX P w) outer P w H s Q E) s
section
variable {P : Program} {w : World} {K : PySem.W.Frag} {mg : Str → Option Value} {base : Heap} {k : Nat} {f : Addr} {fd : FuncData} {ps N : List Str} {sp sp' : Sp}
theorem FG.mono (h : FG P w K mg base k f fd ps sp) {j : Nat} (hj : k ≤ j) : FG P w K mg base j f fd ps sp := ⟨h.len, fun A o s H a us vs Q E r g e b v q => h.go A o s H a us vs Q E (r.mono hj) g e b v q⟩
theorem FG.imp (h : FG P w K mg base k f fd ps sp) (i : ∀ vs H Q E, sp' vs H Q E → sp vs H Q E) : FG P w K mg base k f fd ps sp' :=
  ⟨fun vs H Q E q => h.len vs H Q E (i _ _ _ _ q), fun A o s H a us vs Q E r g e b v q => h.go A o s H a us vs Q E r g e b v (i _ _ _ _ q)⟩
/-- a def of the text, by its body -/
theorem FG.of {x qual : Str} {st : Stmt} (Fn : Fun K x qual st f fd) (S : FnScope N ps (defScope st)) (len : ∀ vs H Q E, sp vs H Q E → vs.length = ps.length)
    (hb : ∀ (cdv : Value) (A : Around) (outer : List Env) (s : Shared) (H : Hp) (vs : List V) (Q : VK) (E : XK), PySem.W.codeIn K cdv qual = true → Room k (A.deeper (envOfC qual (defScope st) s.heap.objs.size f cdv)) → (A.deeper (envOfC qual (defScope st) s.heap.objs.size f cdv)).guards = some [] → sp vs H Q E →
      ∃ t, PSs (cxOf (L2N.CX P w) P w K mg base N qual (defScope st) f cdv A outer s H E) (defBody st) t ∧ t { nx := fun _ H' => Q .non H', rt := Q } (start N vs) H) : FG P w K mg base (k + 1) f fd ps sp := by
  obtain ⟨oc, od, kV, doc, pm, an, cdv, ct, osl, e1, lk, hcd⟩ := Fn.ex
  subst e1
  refine ⟨len, fun A outer s H args us vs Q E hr hg e0 hbd rv hsp => ?_⟩
  have hlen := len vs H Q E hsp
  have KX : K.In s.heap := e0.mod.kin.keeps fun b o e => (e0.bs b o e).1
  have lim := e0.mod.nolimit.keeps (h' := s.heap) fun b o e => (e0.bs b o e).1
  have kinds : ∀ y ∈ ps.zip us, (defScope st).names.lookup y.1 = some .local ∨ ((defScope st).names.lookup y.1 = some .cell ∧ ((cellsFrom (s.heap.objs.size + 1) (defScope st).names []).lookup y.1).isSome = true) := by
    intro ⟨n, v⟩ hy
    rcases S.par n (List.of_mem_zip hy).1 with q | q
    · left; exact q
    · right; exact ⟨q, PySem.W.cellsFrom_some _ _ _ (.inl q)⟩
  refine codeAny_call_function hr.depth (KX _ _ lk) rfl S.co S.gen rfl (PySem.W.codeRec_of KX hcd) (hbd _ _ _ _ ?_)
  refine wpAny_newFunctionEnv_cells S.kind kinds fun env he s1 x => ?_
  subst he
  refine ⟨lim.keeps x.toInCall.keep, codeAny_func ?_⟩
  obtain ⟨t, ht, hq⟩ := hb cdv A outer s H vs Q E hcd (hr.deeper _) hg hsp
  have I := inv_start (CX := L2N.CX P w) (qual := qual) (f := f) (cd := cdv) (outer := outer) (E := E) S hr.hd e0 hlen rv x
  refine wpAny_mono (ht.run [] s1 (start N vs) H _ I hq) (fun fl s' hs => ?_) fun e s' hs => hs
  cases fl with
  | brk => obtain ⟨_, _, _, z⟩ := hs; exact z.elim
  | cont => obtain ⟨_, _, _, z⟩ := hs; exact z.elim
  | ret u => obtain ⟨v, σ', H', J, r', z⟩ := hs; exact ⟨v, H', J.os, J.bare, J.base, J.hok, r', z⟩
  | next => obtain ⟨σ', H', J, z⟩ := hs; exact ⟨.non, H', J.os, J.bare, J.base, J.hok, rfl, z⟩
end
inductive FR where
  | ret (fr : Bool) (d : PyData)
  | exc (n : Str)
abbrev FN := List PyData → Option FR
def FROk (K : PySem.W.Frag) (mg : Str → Option Value) (B H : Hp) (Q : VK) (E : XK) : FR → Prop
  | .ret true d => ∀ v H' N, Same H H' → Same N H' → (∀ a, N a ≠ none → H a = none) → Rep (LN N) v d → Q v H'
  | .ret false d => ∀ v B' H', Nx B H B' H' → Rep (LH K B') v d → Q v H'
  | .exc n => ∀ c H', mg n = some c → Same H H' → E c none H'
def spD (K : PySem.W.Frag) (mg : Str → Option Value) (n : Nat) (F : FN) : Sp := fun vs H Q E => vs.length = n ∧ ∃ B ds r, Same B H ∧ RepAll (LH K B) vs ds ∧ F ds = some r ∧ FROk K mg B H Q E r
def entS (d : PyData) : Sl := .val (scal d) d
def entE (n : Nat) (ds : List PyData) : Ev := ds.map entS ++ List.replicate (n - ds.length) .und
def frOf : Sl → Option FR
  | .val fr d => some (.ret (fr || scal d) d)
  | .own fr ds => some (.ret fr (.list ds))
  | .full d => some (.ret true d)
  | _ => none
/-- the body as a function on data: n slots -/
def callF (n : Nat) (F : SF) : FN := fun ds => match F (entE n ds) with
  | some (.nx _) => some (.ret true .none)
  | some (.rt s) => frOf s
  | some (.ex m _) => some (.exc m)
  | _ => none
section
variable {P : Program} {w : World} {K : PySem.W.Frag} {mg : Str → Option Value} {base : Heap} {k : Nat} {f : Addr} {fd : FuncData} {ps N : List Str} {B H : Hp}
theorem entry_er {so : Addr → BS.Mem → HO} {cl : Nat → Addr} {vs : List V} {ds : List PyData} (n : Nat) (e : Same B H) (r : RepAll (LH K B) vs ds) (hn : ds.length ≤ n) (hN : N.length = n) : ER K ⟨H, B, 0, fun _ => False, so, cl, 0⟩ B H (start N vs) (entE n ds) := by
  have hl := r.length
  refine ⟨Same.refl _, Same.refl _, fun a h1 h2 => h2, e, ?_, fun _ => emp, ⟨fun i a o q => (nomatch q), fun i a q => absurd rfl q, fun i j a _ q => absurd rfl q, fun i s hs => ?_⟩⟩
  · unfold L2.start entE
    rw [List.length_append, List.length_append, List.length_map, List.length_map, List.length_replicate, List.length_replicate]
    omega
  · unfold entE at hs
    by_cases hi : i < ds.length
    · rw [List.getElem?_append_left (by rw [List.length_map]; exact hi)] at hs
      obtain ⟨d, hd, rfl⟩ := map_at hs
      obtain ⟨v, hv, rv⟩ := r.at hd
      refine ⟨v, ?_, ?_⟩
      · unfold L2.start
        rw [List.getElem?_append_left (by rw [List.length_map, hl]; exact hi), List.getElem?_map, hv]
        rfl
      · show Rep (LF K ⟨H, B, 0, fun _ => False, so, cl, 0⟩ B (scal d)) v d
        cases hsc : scal d with
        | true => exact Rep.scal rv hsc
        | false => exact rv
    · rw [List.getElem?_append_right (by rw [List.length_map]; omega), List.getElem?_replicate] at hs
      split at hs
      · cases hs; trivial
      · cases hs
theorem ret_ok {so : Addr → BS.Mem → HO} {cl : Nat → Addr} {s : Sl} {r : FR} {v : V} {σ : L2.St} {ρ : Ev} {B' H' T : Hp} {Q : VK} {E : XK} (hf : frOf s = some r) (h : FROk K mg B H Q E r) (e : ER K ⟨H, B, 0, fun _ => False, so, cl, 0⟩ B' H' σ ρ) (t1 : Same T H') (t2 : ∀ a, T a ≠ none → B' a = none ∧ H a = none) (rr : RR K ⟨H, B, 0, fun _ => False, so, cl, 0⟩ B' H' T v s) : Q v H' := by
  have nxx : Nx B H B' H' := ⟨e.b0, e.eB, e.e0, fun a h1 h2 => e.n0 a h2 h1⟩
  have nwH : Same (nw H B') H' := fun a o q => e.eB a o (nw_some q).2
  have nwF : ∀ a, nw H B' a ≠ none → H a = none := fun a q => by
    cases z : nw H B' a with
    | none => exact absurd z q
    | some o => exact (nw_some z).1
  have freshRep : ∀ {v d}, Rep (LF K ⟨H, B, 0, fun _ => False, so, cl, 0⟩ B' true) v d → (∀ v H' N, Same H H' → Same N H' → (∀ a, N a ≠ none → H a = none) → Rep (LN N) v d → Q v H') → Q v H' := fun r q => q _ H' (nw H B') e.e0 nwH nwF r
  cases s with
  | und => cases hf
  | bor _ _ => cases hf
  | brf _ => cases hf
  | exn _ => cases hf
  | cel _ => cases hf
  | val fr d =>
    cases hf
    cases fr with
    | true => exact freshRep rr h
    | false =>
      rw [Bool.false_or] at h
      cases hs : scal d with
      | true => rw [hs] at h; exact freshRep (Rep.scal rr hs) h
      | false => rw [hs] at h; exact h v B' H' nxx rr
  | full d =>
    cases hf
    exact h v H' T e.e0 t1 (fun a q => (t2 a q).2) rr
  | own fr ds =>
    cases hf
    obtain ⟨p, vs, rfl, hp, ra⟩ := rr
    obtain ⟨g1, g2⟩ := t2 p (by rw [hp]; simp)
    cases fr with
    | true =>
      refine h (.ref p) H' (upd (nw H B') p (.lst vs)) e.e0 (same_upd2 nwH (t1 _ _ hp)) (fun a q => ?_) (.lst upd_same (ra.mono (LN.mono (same_upd ?_))))
      · by_cases ha : a = p
        · subst ha; exact g2
        · rw [upd_ne ha] at q; exact nwF a q
      · cases z : nw H B' p with
        | none => rfl
        | some o => rw [(nw_some z).2] at g1; cases g1
    | false =>
      have s1 : Same B' (upd B' p (.lst vs)) := same_upd g1
      refine h (.ref p) (upd B' p (.lst vs)) H' ⟨e.b0.trans s1, same_upd2 e.eB (t1 _ _ hp), e.e0, fun a q1 q2 => ?_⟩ (.lst (SqL.of upd_same) (ra.mono (LH.mono s1)))
      rw [upd_ne (fun z => by subst z; exact q2 g2)]
      exact e.n0 a q2 q1
/-- THE RULE: a def keeps the promise that its body's function makes -/
theorem FG.bodyC {cl : Nat → Addr} {x qual : Str} {st : Stmt} {F : SF} (Fn : Fun K x qual st f fd) (S : FnScope N ps (defScope st))
    (hb : ∀ (cdv : Value) (A : Around) (outer : List Env) (s : Shared) (H B : Hp) (E : XK), PySem.W.codeIn K cdv qual = true → Room k (A.deeper (envOfC qual (defScope st) s.heap.objs.size f cdv)) → (A.deeper (envOfC qual (defScope st) s.heap.objs.size f cdv)).guards = some [] →
      PSDs (cxOf (L2N.CX P w) P w K mg base N qual (defScope st) f cdv A outer s H E) ⟨H, B, 0, fun _ => False, BS.SetBO P w, cl, 0⟩ (fun c d _ H => E c d H) (defBody st) F) : FG P w K mg base (k + 1) f fd ps (spD K mg ps.length (callF N.length F)) := by
  refine FG.of Fn S (fun vs H Q E h => h.1) fun cdv A outer s H vs Q E hcd hr hg ⟨hl, B, ds, r, e, ra, hF, hok⟩ => ?_
  refine ⟨_, (hb cdv A outer s H B E hcd hr hg).pss, B, entE N.length ds, ?_⟩
  have hpl : ps.length ≤ N.length := by have := congrArg List.length S.pre; rw [List.length_take] at this; omega
  have hle : ds.length ≤ N.length := by rw [← ra.length, hl]; exact hpl
  have E0 := entry_er (so := BS.SetBO P w) (cl := cl) (N := N) N.length e ra hle rfl
  unfold callF at hF
  split at hF
  · rename_i ρ' hr'
    cases hF
    exact ⟨_, E0, hr', fun σ' B' H' E' s' => hok .non H' emp E'.e0 (fun _ _ z => nomatch z) (fun _ z => absurd rfl z) .non⟩
  · rename_i s' hr'
    exact ⟨_, E0, hr', fun v σ' ρ' B' H' T E' s'' t1 t2 rr => ret_ok hF hok E' t1 t2 rr⟩
  · rename_i n ρ' hr'
    cases hF
    exact ⟨_, E0, hr', fun c σ' B' H' hc E' s'' => hok c H' hc E'.e0⟩
  · cases hF
theorem FG.body {cl : Nat → Addr} {x qual : Str} {st : Stmt} {F : SF} (Fn : Fun K x qual st f fd) (S : FnScope N ps (defScope st))
    (hb : ∀ (cdv : Value) (A : Around) (outer : List Env) (s : Shared) (H B : Hp) (E : XK), Room k (A.deeper (envOfC qual (defScope st) s.heap.objs.size f cdv)) → (A.deeper (envOfC qual (defScope st) s.heap.objs.size f cdv)).guards = some [] →
      PSDs (cxOf (L2N.CX P w) P w K mg base N qual (defScope st) f cdv A outer s H E) ⟨H, B, 0, fun _ => False, BS.SetBO P w, cl, 0⟩ (fun c d _ H => E c d H) (defBody st) F) : FG P w K mg base (k + 1) f fd ps (spD K mg ps.length (callF N.length F)) := FG.bodyC (cl := cl) Fn S fun cdv A outer s H B E _ => hb cdv A outer s H B E
/-- a promise by another function -/
theorem FG.fn {n : Nat} {F G : FN} (h : FG P w K mg base k f fd ps (spD K mg n F)) (i : ∀ ds r, G ds = some r → F ds = some r) : FG P w K mg base k f fd ps (spD K mg n G) :=
  h.imp fun vs H Q E ⟨hl, B, ds, r, e, ra, hG, hok⟩ => ⟨hl, B, ds, r, e, ra, i ds r hG, hok⟩
end
def isVal : Sl → Bool
  | .val _ _ => true
  | _ => false
def dats : List Sl → Option (List PyData)
  | [] => some []
  | s :: ss => match dat s with
    | some d => match dats ss with
      | some ds => some (d :: ds)
      | none => none
    | none => none
def cRes (F : FN) (ss : List Sl) : Option Rs := match dats ss with
  | some ds => match F ds with
    | some (.ret true d) => some (.ok (if scal d = true then .val true d else .full d))
    | some (.ret false d) => if ss.all isVal = true then some (.ok (.val false d)) else none
    | some (.exc n) => some (.ex n)
    | none => none
  | none => none
def eCall (F : FN) (fs : List EF) : EF := fun ρ => bzs (evs fs ρ) fun ss => cRes F ss
section
variable {X : Cx} {H0 : En} {W : WX} {e a b c : Expr} {es : List Expr} {fs : List EF} {pos p : Pos} {K : PySem.W.Frag} {B H B' H' : Hp} {σ : L2.St} {mg : Str → Option Value} {ρ : Ev} {k n : Nat} {f : Addr} {fd : FuncData} {ps : List Str} {x : Str} {F : FN}
theorem RZs.datsH : ∀ {vs : List V} {ss : List Sl} {ds : List PyData}, Same B H → RZs K H0 B H vs ss → dats ss = some ds → RepAll (LH K H) vs ds
  | _, _, _, _, .nil, h => by cases h; exact .nil
  | _, _, ds, eB, .cons (s := s) (ss := ss) r rs, h => by
    unfold dats at h
    split at h
    · rename_i d hd
      split at h
      · rename_i ds' hds
        cases h
        exact .cons (r.data eB hd) (RZs.datsH eB rs hds)
      · cases h
    · cases h
theorem RZs.datsB : ∀ {vs : List V} {ss : List Sl} {ds : List PyData}, RZs K H0 B H vs ss → ss.all isVal = true → dats ss = some ds → RepAll (LH K B) vs ds
  | _, _, _, .nil, _, h => by cases h; exact .nil
  | _, _, ds, .cons (s := s) (ss := ss) r rs, ha, h => by
    rw [List.all_cons, Bool.and_eq_true] at ha
    unfold dats at h
    split at h
    · rename_i d hd
      split at h
      · rename_i ds' hds
        cases h
        cases s with
        | val fr d' => cases hd; exact .cons (Rep.mono (LF.toH (Same.refl _)) r) (RZs.datsB rs ha.2 hds)
        | _ => cases ha.1
      · cases h
    · cases h
theorem runFG {pins : List (Addr × Obj)} {s : Shared} {Q : VK} {us : List Value} {vs : List V} {sp : Sp} (Fn : FG X.prog X.w X.K X.mg X.base k f fd ps sp) (hr : Room k X.A) (hg : X.A.guards = some []) (hb : Binds X.K fd ps []) (tk : L2N.Takes X W)
    (I : Inv X pins σ H s) (r : Vals vs us) (h : sp vs H Q (WE W σ)) : wpAny (model X.prog X.w) X.A (call (.ref f) us) (EP X pins σ Q) X.xe s := by
  have hl : us.length = ps.length := r.length.symm.trans (Fn.len _ _ _ _ h)
  have bnd := hb s us I.kIn (by simpa using hl)
  rw [List.append_nil] at bnd
  refine wpAny_call (codeAny_mono (Fn.go X.A X.stack s H ⟨us, []⟩ us vs Q (WE W σ) hr hg I.env0 bnd r h) fun res s' hq => ?_)
  match res, hq with
  | .ok (.ret u), hq => exact I.after hq
  | .ok .next, hq => exact hq.elim
  | .ok .brk, hq => exact hq.elim
  | .ok .cont, hq => exact hq.elim
  | .error e, hq => exact L2N.passAt tk σ pins H s e s' I hq
theorem peCallG {sp : Sp} {t : TA} (Fn : FG X.prog X.w X.K X.mg X.base k f fd ps sp) (hr : Room k X.A) (hgd : X.A.guards = some []) (hg : Gl X x) (hm : X.mg x = some (.ref f)) (hk : PySem.W.keepIn X.K (.ref f) = true) (hb : Binds X.K fd ps []) (tk : L2N.Takes X W) (ha : PA X (e :: es) t)
    (hdb : (x == ("__debug__" : Str)) = false := by decide) (he : starEach (e :: es) X.env = (false, eval e X.env) :: starEach es X.env := by rfl) (hpl : (backTo pos (starEach es X.env)).any (·.1) = false := by rfl) :
    PE X (.Call (.Name x p) (e :: es) [] pos) (fun σ H Q => t σ H fun vs H1 => sp vs H1 Q (WE W σ)) := ⟨fun pins s σ H Q I h => by
  refine wpAny_Call_Name_kw (ld_glob I hg hm (PySem.W.callWith_K (h₀ := X.base) I.ok.mod.kin hk ?_ he hpl) hdb)
  exact thn (ha.run pos pins s σ H _ I h) fun us s1 ⟨vs, H1, I1, r, q⟩ => ⟨I1.kIn, runFG Fn hr hgd hb tk I1 r q⟩⟩
theorem call_out {ss : List Sl} {vs : List V} {Q : VK} (E : ER K H0 B H σ ρ) (rs : RZs K H0 B H vs ss) (hn : vs.length = n) (q : OK K mg H0 W B H σ (cRes F ss) Q) : spD K mg n F vs H Q (WE W σ) := by
  refine ⟨hn, ?_⟩
  unfold cRes at q
  split at q
  · rename_i ds hd
    split at q
    · rename_i d hF
      refine ⟨H, ds, _, Same.refl _, rs.datsH E.eB hd, hF, fun v H' N s1 s2 s3 r => ?_⟩
      rcases q with ⟨s, h1, h2⟩ | ⟨m, h1, h2⟩
      · cases h1
        have nn : Nx B H B H' := ⟨Same.refl _, E.eB.trans s1, s1, fun _ h _ => h⟩
        split at h2
        · rename_i hs
          exact h2 v B H' emp nn TF.emp (Rep.scal r hs)
        · exact h2 v B H' N nn ⟨s2, fun a ha => ⟨s3 a ha, E.eB.free (s3 a ha)⟩⟩ r
      · cases h1
    · rename_i d hF
      split at q
      · rename_i hv
        refine ⟨B, ds, _, E.eB, rs.datsB hv hd, hF, fun v B' H' nn r => ?_⟩
        rcases q with ⟨s, h1, h2⟩ | ⟨m, h1, h2⟩
        · cases h1
          exact h2 v B' H' emp nn TF.emp r
        · cases h1
      · exact (okNone q).elim
    · rename_i m hF
      refine ⟨H, ds, _, Same.refl _, rs.datsH E.eB hd, hF, fun c H' hc s1 => ?_⟩
      rcases q with ⟨s, h1, h2⟩ | ⟨m', h1, h2⟩
      · cases h1
      · cases h1
        exact h2 c B H' hc ⟨Same.refl _, E.eB.trans s1, s1, fun _ h _ => h⟩
    · exact (okNone q).elim
  · exact (okNone q).elim
theorem RZs.len : ∀ {vs : List V} {ss : List Sl}, RZs K H0 B H vs ss → vs.length = ss.length
  | _, _, .nil => rfl
  | _, _, .cons _ rs => congrArg (· + 1) rs.len
theorem evs_len : ∀ {fs : List EF} {ρ : Ev} {ss : List Sl}, evs fs ρ = some (.ok ss) → ss.length = fs.length
  | [], _, _, h => by cases h; rfl
  | f :: fs, ρ, ss, h => by
    unfold evs at h
    split at h
    · split at h
      · rename_i ss' hss
        cases h
        exact congrArg (· + 1) (evs_len hss)
      · rename_i hno; exact absurd h (hno ss)
    · cases h
    · cases h
/-- f(e, ..) -/
theorem pdCall (Fn : FG X.prog X.w X.K X.mg X.base k f fd ps (spD X.K X.mg n F)) (hr : Room k X.A) (hgd : X.A.guards = some []) (hm : X.mg x = some (.ref f)) (hk : PySem.W.keepIn X.K (.ref f) = true) (hb : Binds X.K fd ps []) (tk : L2N.Takes X W) (ha : PDs X H0 W (e :: es) fs) (hn : fs.length = n := by rfl) (hg : Gl X x := by rfl)
    (hdb : (x == ("__debug__" : Str)) = false := by decide) (he : starEach (e :: es) X.env = (false, eval e X.env) :: starEach es X.env := by rfl) (hpl : (backTo pos (starEach es X.env)).any (·.1) = false := by rfl) :
    PD X H0 W (.Call (.Name x p) (e :: es) [] pos) (eCall F fs) := ⟨peWeak (peCallG Fn hr hgd hg hm hk hb tk ha.pa hdb he hpl) fun σ H Q ⟨B, ρ, E, q⟩ => ⟨B, ρ, E, by
  have q' : OK X.K X.mg H0 W B H σ (bzs (evs fs ρ) fun ss => cRes F ss) Q := q
  cases r : evs fs ρ with
  | none => rw [r] at q'; exact (okNone q').elim
  | some o =>
    rw [r] at q'
    cases o with
    | ex m =>
      rcases q' with ⟨s, h1, h2⟩ | ⟨m', h1, h2⟩
      · cases h1
      · cases h1; exact .inr ⟨m, rfl, h2⟩
    | ok ss =>
      refine .inl ⟨ss, rfl, fun vs B1 H1 n1 rs => ?_⟩
      exact call_out (E.nx n1) rs (by rw [rs.len, evs_len r, hn]) (OK.nx q' n1)⟩⟩
end
section
variable {X : Cx} {H0 : En} {W : WX} {K : PySem.W.Frag} {B H B' H' : Hp} {σ : L2.St} {mg : Str → Option Value} {ρ : Ev}
abbrev W0 : WX := fun _ _ _ _ => False
def lcL (t : GF) (tt : BF) (elt : EF) (ρ : Ev) : List Sl → Option (Bool × List PyData)
  | [] => some (true, [])
  | s :: ss => match t s ρ with
    | none => none
    | some ρ1 => match tt ρ1 with
      | some (.ok true) => match elt ρ1 with
        | some (.ok x) => match stor (frz x) with
          | some (f, d) => match lcL t tt elt ρ ss with
            | some (g, ds) => some (f && g, d :: ds)
            | none => none
          | none => none
        | _ => none
      | some (.ok false) => lcL t tt elt ρ ss
      | _ => none
def eLc (g : IF) (own : List Nat) (t : GF) (tt : BF) (elt : EF) : EF := fun ρ => match g ρ with
  | some (.ok its) => match lcL t tt elt (wipeE ρ own) its with
    | some (fr, ds) => if ds.length ≤ 16777216 then some (.ok (.own fr ds)) else none
    | none => none
  | some (.ex n) => some (.ex n)
  | none => none
def bYes : BF := fun _ => some (.ok true)
structure PBs (X : Cx) (H0 : En) (W : WX) (ifs : List Expr) (f : BF) : Prop where
  pts : PTs X ifs (tT X.K X.mg H0 W f)
theorem pbsNil : PBs X H0 W [] bYes := ⟨⟨fun pins s σ H Q I ⟨B, ρ, E, q⟩ => (pts_nil (X := X)).run pins s σ H Q I (by
  rcases q with ⟨b, h1, h2⟩ | ⟨m, h1, h2⟩
  · cases h1; exact h2 B H E.nx0
  · cases h1)⟩⟩
/-- a cell that is no slot's -/
theorem ff_upd {F : Nat → Hp} {D : Addr} {o : HO} (h : FF K H0 B H σ ρ F) (hB : B D = none) (hF : ∀ i, F i D = none) : FF K H0 B (upd H D o) σ ρ F :=
  ⟨fun i a u q => by rw [upd_ne (fun z => by subst z; rw [hF i] at q; cases q)]; exact h.1 i a u q, h.2.1, h.2.2.1, h.2.2.2⟩
theorem same_updD {B H : Hp} {D : Addr} {o : HO} (e : Same B H) (hB : B D = none) : Same B (upd H D o) := fun a u q => by
  rw [upd_ne (fun z => by subst z; rw [hB] at q; cases q)]; exact e a u q
theorem lc_ok {J : It} {its : List Sl} {g : TG} {tt : TT} {te : TE} {own : List Nat} {t : GF} {bt : BF} {elt : EF} {fr : Bool} {ds : List PyData} {Q : VK} {W' : WX} (E : ER K H0 B H σ ρ) (I1 : ItOk K H0 B J its)
    (hg : ∀ v σ H Q, tG K H0 t v σ H Q → g v σ H Q) (htt : ∀ σ H Q, tT K mg H0 W0 bt σ H Q → tt σ H Q) (hte : ∀ σ H Q, tZ K mg H0 W0 elt σ H Q → te σ H Q)
    (hgs : ∀ {v H} {R : L2.St → Hp → Prop}, g v (L2.wipe σ own) H R → g v (L2.wipe σ own) H fun σ' H' => L2.wipe σ' own = L2.wipe σ own ∧ R σ' H')
    (h : lcL t bt elt (wipeE ρ own) its = some (fr, ds)) (hz : ds.length ≤ 16777216) (q : KQ K H0 B H (.own fr ds) Q) :
    ∀ D, H D = none → ∃ Wv : Nat → Nat → Hp → Prop, (∃ m, Wv 0 m (upd H D (.lst []))) ∧ ∀ i m H, Wv i m H →
      (J.stop i H ∧ Q (.ref D) H) ∨ (J.go i H ∧ ∃ Nx : Hp → Prop, (∀ H', Nx H' → ∃ m', m' < m ∧ Wv (i + 1) m' H') ∧ ∀ x H', J.yld i H x H' → g x (L2.wipe σ own) H' fun σ2 H2 => L2.wipe σ2 own = L2.wipe σ own ∧ tt σ2 H2 fun b H3 =>
        if b = true then te σ2 H3 fun y H4 => ∃ acc, H4 D = some (.lst acc) ∧ acc.length < sizeLine ∧ Nx (upd H4 D (.lst (acc ++ [y]))) else Nx H3) := by
  intro D hD
  obtain ⟨F, hF⟩ := E.ex
  have hBD : B D = none := E.eB.free hD
  have hFD : ∀ i, F i D = none := fun i => (hF.1 i).free hD
  have h0D : H0.H D = none := E.e0.free hD
  -- the word: what is left of the walk, behind i turns
  refine ⟨fun i m H2 => m = its.length - i ∧ i ≤ its.length ∧ ∃ B2 acc da fa rest, FF K H0 B2 H2 (L2.wipe σ own) (wipeE ρ own) F ∧ Same H0.H H2 ∧ Nx B H B2 H2 ∧ B2 D = none ∧ H2 D = some (.lst acc) ∧ RepAll (LF K H0 B2 fa) acc da ∧
    lcL t bt elt (wipeE ρ own) (its.drop i) = some rest ∧ fr = (fa && rest.1) ∧ ds = da ++ rest.2, ⟨_, rfl, Nat.zero_le _, B, [], [], true, (fr, ds), ?_, ?_, ?_, hBD, upd_same, .nil, h, rfl, rfl⟩, ?_⟩
  · exact ff_upd (hF.wipe own) hBD hFD
  · exact same_updD E.e0 h0D
  · exact ⟨Same.refl _, same_updD E.eB hBD, same_upd hD, fun _ z _ => z⟩
  rintro i m H2 ⟨rfl, hi, B2, acc, da, fa, rest, f2, e0, n2, b2, hacc, ra, hl, e1, e2⟩
  have eB2 : Same B2 H2 := n2.bh
  by_cases hlt : i < its.length
  · refine .inr ⟨I1.go i B2 H2 n2.b eB2 hlt, ?_⟩
    have hd : its.drop i = its[i] :: its.drop (i + 1) := List.drop_eq_getElem_cons hlt
    rw [hd] at hl
    unfold lcL at hl
    cases rt : t its[i] (wipeE ρ own) with
    | none => rw [rt] at hl; cases hl
    | some ρ1 =>
      rw [rt] at hl
      dsimp only at hl
      refine ⟨fun H' => ∃ B5 acc5 da5 fa5 rest5, FF K H0 B5 H' (L2.wipe σ own) (wipeE ρ own) F ∧ Same H0.H H' ∧ Nx B H B5 H' ∧ B5 D = none ∧ H' D = some (.lst acc5) ∧ RepAll (LF K H0 B5 fa5) acc5 da5 ∧
        lcL t bt elt (wipeE ρ own) (its.drop (i + 1)) = some rest5 ∧ fr = (fa5 && rest5.1) ∧ ds = da5 ++ rest5.2, fun H' ⟨B5, acc5, da5, fa5, rest5, z⟩ => ⟨_, by omega, rfl, hlt, B5, acc5, da5, fa5, rest5, z⟩, fun x H3 hy => ?_⟩
      obtain ⟨B3, n3, rz⟩ := I1.yld i B2 H2 x H3 its[i] n2.b eB2 e0 (List.getElem?_eq_getElem hlt) hy
      have f3 : FF K H0 B3 H3 (L2.wipe σ own) (wipeE ρ own) F := f2.nx n3
      have E3 : ER K H0 B3 H3 (L2.wipe σ own) (wipeE ρ own) := ⟨e0.trans n3.h, E.b0.trans (n2.b.trans n3.b), fun a h1 h2 => n3.no a (n2.no a (E.n0 a h1 h2) (PL.Same.ne E.e0 h1)) (PL.Same.ne e0 h1), n3.bh, by rw [L2.wipe_length, wipeE_len]; exact E.len, F, f3⟩
      have hD2 : H2 D ≠ none := by rw [hacc]; simp
      have b3 : B3 D = none := n3.no D b2 hD2
      have hD3 : H3 D = some (.lst acc) := n3.h _ _ hacc
      have goal : g x (L2.wipe σ own) H3 fun σ2 H4 => tt σ2 H4 fun b H5 =>
          if b = true then te σ2 H5 fun y H6 => ∃ acc', H6 D = some (.lst acc') ∧ acc'.length < sizeLine ∧ ∃ B5 acc5 da5 fa5 rest5, FF K H0 B5 (upd H6 D (.lst (acc' ++ [y]))) (L2.wipe σ own) (wipeE ρ own) F ∧ Same H0.H (upd H6 D (.lst (acc' ++ [y]))) ∧ Nx B H B5 (upd H6 D (.lst (acc' ++ [y]))) ∧ B5 D = none ∧ (upd H6 D (.lst (acc' ++ [y]))) D = some (.lst acc5) ∧ RepAll (LF K H0 B5 fa5) acc5 da5 ∧
            lcL t bt elt (wipeE ρ own) (its.drop (i + 1)) = some rest5 ∧ fr = (fa5 && rest5.1) ∧ ds = da5 ++ rest5.2
          else ∃ B5 acc5 da5 fa5 rest5, FF K H0 B5 H5 (L2.wipe σ own) (wipeE ρ own) F ∧ Same H0.H H5 ∧ Nx B H B5 H5 ∧ B5 D = none ∧ H5 D = some (.lst acc5) ∧ RepAll (LF K H0 B5 fa5) acc5 da5 ∧
            lcL t bt elt (wipeE ρ own) (its.drop (i + 1)) = some rest5 ∧ fr = (fa5 && rest5.1) ∧ ds = da5 ++ rest5.2 := by
        refine hg _ _ _ _ ⟨B3, _, its[i], ρ1, E3, rz, rt, fun σ2 E4 => htt _ _ _ ⟨B3, ρ1, E4, ?_⟩⟩
        have n23 := n2.trans n3
        cases rb : bt ρ1 with
        | none => rw [rb] at hl; cases hl
        | some ob =>
          rw [rb] at hl
          cases ob with
          | ex m => cases hl
          | ok b =>
            refine .inl ⟨b, rfl, fun B4 H4 n4 => ?_⟩
            have hD4 : H4 D = some (.lst acc) := n4.h _ _ hD3
            have b4 : B4 D = none := n4.no D b3 (by rw [hD3]; simp)
            cases b with
            | false =>
              dsimp only; rw [if_neg Bool.false_ne_true]
              exact ⟨B4, acc, da, fa, rest, f3.nx n4, (e0.trans n3.h).trans n4.h, n23.trans n4, b4, hD4, ra.mono (LF.mono (n3.b.trans n4.b)), hl, e1, e2⟩
            | true =>
              dsimp only; rw [if_pos rfl]
              dsimp only at hl
              refine hte _ _ _ ⟨B4, ρ1, E4.nx n4, ?_⟩
              cases re : elt ρ1 with
              | none => rw [re] at hl; cases hl
              | some oe =>
                rw [re] at hl
                cases oe with
                | ex m => cases hl
                | ok xx =>
                  refine .inl ⟨xx, rfl, fun v B5 H5 n5 rz5 => ?_⟩
                  dsimp only at hl
                  split at hl
                  · rename_i f d hst
                    split at hl
                    · rename_i gg ds' hls
                      cases hl
                      dsimp only at e1 e2
                      have hD5 : H5 D = some (.lst acc) := n5.h _ _ hD4
                      have b5 : B5 D = none := n5.no D b4 (by rw [hD4]; simp)
                      have ra5 := (ra.mono (LF.mono ((n3.b.trans n4.b).trans n5.b)))
                      have rv := rz5.stor hst
                      refine ⟨acc, hD5, ?_, B5, acc ++ [v], da ++ [d], fa && f, (gg, ds'), ff_upd ((f3.nx n4).nx n5) b5 hFD, same_updD (((e0.trans n3.h).trans n4.h).trans n5.h) h0D, ?_, b5, upd_same, (ra5.mono LF.and1).append (.cons (rv.mono LF.and2) .nil), hls, by rw [e1, Bool.and_assoc], by rw [e2, List.append_assoc]; rfl⟩
                      · rw [ra.length, sizeLine_eq]
                        rw [e2, List.length_append, List.length_cons] at hz
                        omega
                      · have n5' := (n23.trans n4).trans n5
                        refine ⟨n5'.b, same_updD n5'.bh b5, fun a o z => ?_, n5'.no⟩
                        rw [upd_ne (fun y => by subst y; rw [hD] at z; cases z)]
                        exact n5'.h a o z
                    · cases hl
                  · cases hl
      exact hgs goal
  · have ei : i = its.length := by omega
    subst ei
    rw [List.drop_length] at hl
    cases hl
    refine .inl ⟨I1.stop _ B2 H2 n2.b eB2 (Nat.le_refl _), ?_⟩
    rw [Bool.and_true] at e1
    rw [List.append_nil] at e2
    subst e1; subst e2
    refine q (.ref D) B2 H2 (fun a => if a = D then some (.lst acc) else none) n2 ⟨fun a o z => ?_, fun a z => ?_⟩ ⟨D, acc, rfl, if_pos rfl, ra⟩
    · split at z
      · rename_i y; subst y; cases z; exact hacc
      · cases z
    · split at z
      · rename_i y; subst y; exact ⟨hD, b2⟩
      · exact absurd rfl z
theorem wipe_idem : ∀ (own : List Nat) (σ : L2.St), L2.wipe (L2.wipe σ own) own = L2.wipe σ own := by
  intro own σ
  apply List.ext_getElem?
  intro j
  by_cases hj : j ∈ own
  · have key : ∀ (vs : List Nat) (τ : L2.St), j ∈ vs → (L2.wipe τ vs)[j]? = if j < τ.length then some none else none := by
      intro vs
      induction vs with
      | nil => intro τ h; cases h
      | cons i r ih =>
        intro τ h
        show ((L2.wipe τ r).set i none)[j]? = _
        by_cases hij : i = j
        · subst hij
          by_cases hl : i < τ.length
          · rw [List.getElem?_set_self (by rw [L2.wipe_length]; exact hl), if_pos hl]
          · rw [List.getElem?_eq_none (by rw [List.length_set, L2.wipe_length]; omega), if_neg hl]
        · rw [List.getElem?_set_ne hij]
          exact ih τ (by rcases List.mem_cons.mp h with e | e; exact absurd e.symm hij; exact e)
    rw [key own _ hj, key own _ hj, L2.wipe_length]
  · rw [L2.wipe_out hj]
theorem wipe_set {i : Nat} {own : List Nat} (hi : i ∈ own) (σ : L2.St) (o : Option V) : L2.wipe (σ.set i o) own = L2.wipe σ own := by
  apply List.ext_getElem?
  intro j
  by_cases hj : j ∈ own
  · have key : ∀ (vs : List Nat) (τ : L2.St), j ∈ vs → (L2.wipe τ vs)[j]? = if j < τ.length then some none else none := by
      intro vs
      induction vs with
      | nil => intro τ h; cases h
      | cons i r ih =>
        intro τ h
        show ((L2.wipe τ r).set i none)[j]? = _
        by_cases hij : i = j
        · subst hij
          by_cases hl : i < τ.length
          · rw [List.getElem?_set_self (by rw [L2.wipe_length]; exact hl), if_pos hl]
          · rw [List.getElem?_eq_none (by rw [List.length_set, L2.wipe_length]; omega), if_neg hl]
        · rw [List.getElem?_set_ne hij]
          exact ih τ (by rcases List.mem_cons.mp h with e | e; exact absurd e.symm hij; exact e)
    rw [key own _ hj, key own _ hj, List.length_set]
  · rw [L2.wipe_out hj, L2.wipe_out hj, List.getElem?_set_ne (fun e : i = j => hj (by rw [← e]; exact hi))]
/-- a target that stores names of the block alone -/
def Keeps (own : List Nat) (g : TG) : Prop := ∀ {v : V} {σ : L2.St} {H : Hp} {R : L2.St → Hp → Prop}, g v σ H R → g v σ H fun σ' H' => L2.wipe σ' own = L2.wipe σ own ∧ R σ' H'
theorem keeps_name {own : List Nat} {i : Nat} (hi : i ∈ own) : Keeps own (gName i) := fun {v σ H R} h => ⟨wipe_set hi σ _, h⟩
section
variable {elt tg iter : Expr} {ifs : List Expr} {scope : Scope} {own : List (Str × Nat)} {pos : Pos} {g : IF} {t : GF} {bt : BF} {ef : EF} {gt : TG}
theorem eLc_ok {wi : TI} (hw : wi = tI X.K X.mg H0 W g) (hgt : ∀ v σ H Q, tG X.K H0 t v σ H Q → gt v σ H Q) (hk : Keeps (own.map (·.2)) gt) {Q : VK} (E : ER X.K H0 B H σ ρ) (q : OK X.K X.mg H0 W B H σ (eLc g (own.map (·.2)) t bt ef ρ) Q) :
    tLc wi gt (tT X.K X.mg H0 W0 bt) (tZ X.K X.mg H0 W0 ef) (own.map (·.2)) σ H Q := by
  subst hw
  refine ⟨B, ρ, E, ?_⟩
  unfold eLc at q
  cases r : g ρ with
  | none => rw [r] at q; exact (okNone q).elim
  | some o =>
    rw [r] at q
    cases o with
    | ex m =>
      rcases q with ⟨s, h1, h2⟩ | ⟨m', h1, h2⟩
      · cases h1
      · cases h1; exact .inr ⟨m, rfl, h2⟩
    | ok its =>
      refine .inl ⟨its, rfl, fun J B1 H1 n1 I1 => ?_⟩
      dsimp only at q
      split at q
      · rename_i fr ds hl
        split at q
        · rename_i hz
          rcases q with ⟨s, h1, h2⟩ | ⟨m', h1, h2⟩
          · cases h1
            refine lc_ok (mg := X.mg) (W' := W) (E.nx n1) I1 hgt (fun _ _ _ z => z) (fun _ _ _ z => z) (fun {v H R} h => ?_) hl hz (h2.nx n1)
            have z := hk h
            rw [wipe_idem] at z
            exact z
          · cases h1
        · exact (okNone q).elim
      · exact (okNone q).elim
theorem pdLc (hc : X.calm = true) (hN : X.N.Nodup) (hi : PID X H0 W tg iter g) (ok : BlkOk X.N X.env.scope scope own) (hgt : ∀ v σ H Q, tG X.K H0 t v σ H Q → gt v σ H Q) (hk : Keeps (own.map (·.2)) gt)
    (hg : ∀ (s : Shared) (H : Hp) (C : Addr) (cl : List (Str × Addr)) (fp : List Addr), PG (X.blk s H scope (compEnvC scope cl C X.env) fp) tg gt) (ht : ∀ (s : Shared) (H : Hp) (C : Addr) (cl : List (Str × Addr)) (fp : List Addr), PBs (X.blk s H scope (compEnvC scope cl C X.env) fp) H0 W0 ifs bt)
    (he : ∀ (s : Shared) (H : Hp) (C : Addr) (cl : List (Str × Addr)) (fp : List Addr), PD (X.blk s H scope (compEnvC scope cl C X.env) fp) H0 W0 elt ef) (hs : ∀ x, foldedSetIterable iter X.env x = pure x := by intro _; rfl) :
    PD X H0 W (.ListComp elt [⟨tg, iter, ifs, 0⟩] scope pos) (eLc g (own.map (·.2)) t bt ef) :=
  ⟨peWeak (pe_lc hc hN hi.pi ok hg (fun s H C cl fp => (ht s H C cl fp).pts) (fun s H C cl fp => (he s H C cl fp).z) hs) fun σ H Q ⟨B, ρ, E, q⟩ => eLc_ok rfl hgt hk E q⟩
/-- a name as the block's target -/
theorem tg_name {i : Nat} : ∀ v σ H Q, tG X.K H0 (gN i) v σ H Q → gName i v σ H Q := fun v σ H Q ⟨B, ρ, s, ρ', E, r, h, q⟩ => by
  unfold gN at h
  split at h
  · rename_i hs; cases h
    exact q _ (E.set E.nx0 TF.emp r.rr hs)
  · cases h
end
end
section
variable {X : Cx} {H0 : En} {W : WX} {e a b c : Expr} {es : List Expr} {f g : EF} {pos apos cpos : Pos} {K : PySem.W.Frag} {B H B' H' : Hp} {σ : L2.St} {mg : Str → Option Value} {ρ : Ev}
/-- slot i's own list is written -/
theorem ER.wr {i : Nat} {p : Addr} {fr fr' : Bool} {ds ds' : List PyData} {vs' : List V} (E : ER K H0 B H σ ρ) (hi : ρ[i]? = some (.own fr ds)) (hp : σ[i]? = some (some (.ref p))) (r' : RepAll (LF K H0 B fr') vs' ds') :
    ER K H0 B (upd H p (.lst vs')) σ (ρ.set i (.own fr' ds')) := by
  obtain ⟨F, f1, f2, f3, f4⟩ := E.ex
  obtain ⟨p', vs, e1, e2, r1⟩ := f4 i _ hi
  have epp : p' = p := by rw [hp] at e1; cases e1; rfl
  subst epp
  have hF : F i p' ≠ none := by rw [e2]; simp
  obtain ⟨g1, g2⟩ := f2 i p' hF
  refine ⟨same_updD E.e0 g2, E.b0, E.n0, same_updD E.eB g1, by rw [List.length_set]; exact E.len, fun j => if j = i then upd (F i) p' (.lst vs') else F j, ⟨fun j => ?_, fun j a h => ?_, fun j k a hjk h => ?_, fun j u hu => ?_⟩⟩
  · dsimp only
    split
    · intro a o q
      by_cases ha : a = p'
      · subst ha; rw [upd_same] at q ⊢; exact q
      · rw [upd_ne ha] at q ⊢; exact f1 i a o q
    · rename_i hj
      exact same_updD (f1 j) (f3 i j p' (Ne.symm hj) hF)
  · dsimp only at h
    split at h
    · by_cases ha : a = p'
      · subst ha; exact ⟨g1, g2⟩
      · rw [upd_ne ha] at h; exact f2 i a h
    · exact f2 j a h
  · dsimp only at h ⊢
    split at h
    · rename_i hji
      rw [if_neg (by omega)]
      by_cases ha : a = p'
      · subst ha; exact f3 i k a (by omega) hF
      · rw [upd_ne ha] at h; exact f3 i k a (by omega) h
    · split
      · rename_i hji hki
        have ha : a ≠ p' := fun z => by subst z; exact h (f3 i j a (Ne.symm hji) hF)
        rw [upd_ne ha]
        exact f3 j i a hji h
      · exact f3 j k a hjk h
  · dsimp only
    by_cases hj : j = i
    · subst hj
      have hl : j < ρ.length := by have := (List.getElem?_eq_some_iff.mp hu).1; rwa [List.length_set] at this
      rw [List.getElem?_set_self hl] at hu
      have hu' := Option.some.inj hu
      subst hu'
      rw [if_pos rfl]
      exact ⟨p', vs', hp, upd_same, r'⟩
    · rw [List.getElem?_set_ne (Ne.symm hj)] at hu
      rw [if_neg hj]
      exact f4 j u hu
/-- x.append(e) -/
def sApp (i : Nat) (f : EF) : SF := fun ρ => match ρ[i]? with
  | some (.own fr ds) => bSz (f ρ) ρ fun s => match stor s with
    | some (f', d) => if ds.length < 16777216 then some (.nx (ρ.set i (.own (fr && f') (ds ++ [d])))) else none
    | none => none
  | _ => none
theorem psdApp {i : Nat} {o : Expr} (ho : PE X o (tVar i)) (he : PD X H0 W e f) (hbase : attributeBase o "append" X.env (eval o X.env) = eval o X.env := by rfl)
    (hfew : ((backTo cpos (starEach (e :: []) X.env)).all (fun x => !x.1) && (backToKw cpos (keywordEach [] X.env)).all (fun x => x.1.isSome) && decide ((e :: []).length + ([] : List Keyword).length + (if ([] : List Keyword).isEmpty then 0 else 1) < 30)) = true := by rfl)
    (hline : (apos.endLine == cpos.line) = true := by rfl) (hs : starEach (e :: []) X.env = (false, eval e X.env) :: starEach [] X.env := by rfl) (hplain : (backTo cpos (starEach [] X.env)).any (·.1) = false := by rfl)
    (hsw : swapsWith (.Call (.Attribute o "append" apos) [e] [] cpos) none pos.line X.env = pure false := by rfl) : PSD X H0 W (.Expr (.Call (.Attribute o "append" apos) [e] [] cpos) pos) (sApp i f) := ⟨psWeak (ps_expr (pe_bm PySem.F.plainAttrs_list PySem.F.slot_list_append PySem.F.type_list_append mt_append ho (pa_cons he.z pa_nil hs) hbase hfew hline hs hplain) hsw) fun D σ H ⟨B, ρ, o, E, h, ho⟩ => by
  unfold sApp at h
  split at h
  · rename_i fr ds hi
    obtain ⟨F, f1, f2, f3, f4⟩ := E.ex
    obtain ⟨p, vs, e1, e2, r1⟩ := f4 i _ hi
    have hH : H p = some (.lst vs) := f1 i _ _ e2
    refine ⟨.ref p, e1, .inl ⟨rfl, vs, SqL.of hH⟩, B, ρ, E, bSz_ok E h ho fun s v B' H' n r q ho' => ?_⟩
    split at q
    · rename_i f' d hst
      split at q
      · rename_i hz
        cases q
        have r' := r1.mono (LF.mono n.b)
        refine ⟨p, vs, v, rfl, rfl, n.h _ _ hH, by rw [r1.length, sizeLine_eq]; exact hz, ?_⟩
        exact ho' σ B' _ ((E.nx n).wr hi e1 ((r'.mono LF.and1).append (.cons ((r.stor hst).mono LF.and2) .nil))) (Same.refl _)
      · cases q
    · cases q
  · cases h⟩
/-- x[j] = e -/
def sPut (i : Nat) (fi f : EF) : SF := fun ρ => match ρ[i]? with
  | some (.own fr ds) => bSz (f ρ) ρ fun s => bSz (fi ρ) ρ fun z => match stor s with
    | some (f', d) => match dat z with
      | some (.int k) => match ixN ds.length k with
        | some j => some (.nx (ρ.set i (.own (fr && f') (ds.set j d))))
        | none => none
      | _ => none
    | none => none
  | _ => none
/-- a slot's own list is frozen -/
def gFrz (i : Nat) (ρ : Ev) : Option Ev := match ρ[i]? with
  | some s => some (ρ.set i (frz s))
  | none => none
end
end PL
namespace PL
open PySem PySem.Spec PyProof.Rows L2
section
variable {P : Program} {w : World} {K : PySem.W.Frag} {mg mb : Str → Option Value} {k : Nat} {fa a : Addr} {fd : FuncData} {x : Str} {sp : Sp} {s₁ : Shared} {vs : List Value} {ns : List Int}
/-- the abstract heap that tracks the script at most -/
structure Scr (K : PySem.W.Frag) (a : Addr) (ns : List Int) (h : Heap) (H : Hp) : Prop where
  only : Only H
  sq : SqL K H a (ns.map V.int)
  at' : ∀ b, H b ≠ none → b = a
  nk : H a ≠ none → K.lookup a = none
theorem lawRun (KX : K.In s₁.heap) (hns : s₁.heap.Ns mainGlobals mg) (hb : s₁.heap.Ns builtinsNs mb) (hbb : ∀ x : Str, x ≠ "__name__" → mb x = bootBuiltins x) (hlim : s₁.heap.NoLimit) (hg : s₁.gens = #[])
    (ha : s₁.heap.get? a = some { cls := .type "list", data := .seq vs.toArray }) (hr : Room k callerA) (F : ∀ base : Heap, K.In base → base.Ns mainGlobals mg → FG P w K mg base k fa fd [x] sp) (hbind : ∀ (s : Shared) (u : Value), BindsTo s fd ⟨[u], []⟩ [(x, u)])
    {H : Hp} (S : Scr K a ns s₁.heap H) (hok : HOk P w H s₁.heap) (hsp : sp [.ref a] H (fun v _ => v = .bl true) fun _ _ _ => False) :
    codeAny (model P w) callerA (.call (.ref fa) ⟨[.ref a], []⟩) (fun r s' => r = .ok (.ret (.bool true)) ∧ OldK s₁.heap s'.heap ∧ s'.os = s₁.os ∧ AllBare s'.gens) s₁ := by
  have free : ∀ {b : Addr} {o : Obj}, s₁.heap.get? b = some o → (∀ v n, o.data = .seq v n → b ≠ a) → H b = none := by
    intro b o e d
    cases q : H b with
    | none => rfl
    | some u =>
      have eb := S.at' b (by rw [q]; simp)
      subst eb
      have ee := ha.symm.trans e
      cases ee
      exact absurd rfl (d _ _ rfl)
  have toB : ∀ {b : Addr} {o : Obj}, s₁.heap.get? b = some o → H b = none → (hidT s₁.heap H).get? b = some o := hidT_get
  have nsT : ∀ {b : Addr} {m : Str → Option Value}, s₁.heap.Ns b m → (hidT s₁.heap H).Ns b m := by
    intro b m ⟨o, es, ep, e, d, r⟩
    exact ⟨o, es, ep, toB e (free e (fun v n z => by rw [d] at z; cases z)), d, r⟩
  have KB : K.In (hidT s₁.heap H) := by
    intro b o e
    refine toB (KX b o e) ?_
    cases q : H b with
    | none => rfl
    | some u =>
      have eb := S.at' b (by rw [q]; simp)
      subst eb
      rw [S.nk (by rw [q]; simp)] at e
      cases e
  obtain ⟨mc, l1, l2⟩ := hlim
  have M : Mod K mg (hidT s₁.heap H) := ⟨KB, nsT hns, ⟨mb, nsT hb, hbb⟩, ⟨mc, nsT l1, l2⟩⟩
  have none_in : ∀ b : Addr, b ∉ ([] : List Addr) := fun b z => by simp at z
  have e0 : Env0 P w K mg (hidT s₁.heap H) callerA [] s₁ H := ⟨rfl, M, fun b o e => of_hidT e, Nat.le_of_eq (hidT_size _ _), trivial, fun b hb => absurd hb (none_in b), hok, .of_eq hg⟩
  have run := (F _ KB (nsT hns)).go callerA [] s₁ H ⟨[.ref a], []⟩ [.ref a] [.ref a] _ _ hr rfl e0 (hbind s₁ (.ref a)) (.cons rfl .nil) hsp
  refine codeAny_mono run fun r s' hq => ?_
  match r, hq with
  | .ok .next, hq => exact hq.elim
  | .ok .brk, hq => exact hq.elim
  | .ok .cont, hq => exact hq.elim
  | .error e, ⟨_, _, _, _, _, _, _, _, _, _, _, _, z⟩ => exact z.elim
  | .ok (.ret u), ⟨v, H', os, bare, u1, hok', rv, q⟩ =>
    have qv : v = .bl true := q
    subst qv
    cases (show u = Value.bool true from rv)
    refine ⟨rfl, OldK.of_keep fun b o e => ?_, os, bare⟩
    rcases S.only b with z | ⟨ob, xs, z⟩
    · exact u1.keep b o e z (none_in b) (none_in b)
    · have k1 : s₁.heap.get? b = some ob := (hok b _ z).1
      have k2 : s'.heap.get? b = some ob := (hok' b _ (u1.frzs b ob _ z)).1
      rw [k2, ← k1, e]
theorem scr_ex (KX : K.In s₁.heap) (ha : s₁.heap.get? a = some { cls := .type "list", data := .seq vs.toArray }) (hi : IntsAre vs ns) (hl : ns.length ≤ sizeLine) : ∃ H : Hp, Scr K a ns s₁.heap H ∧ HOk P w H s₁.heap := by
  have rv := vals_ints hi
  have lv := hi.length
  by_cases hk : K.lookup a = none
  · refine ⟨fun b => if b = a then some (.frz { cls := .type "list", data := .seq vs.toArray } (.lst (ns.map V.int))) else none, ⟨fun b => ?_, .inl (.inr ⟨{ cls := .type "list", data := .seq vs.toArray }, if_pos rfl⟩), fun b z => ?_, fun _ => hk⟩, fun b u z => ?_⟩
    · by_cases e : b = a
      · right; exact ⟨_, _, if_pos e⟩
      · left; exact if_neg e
    · by_cases e : b = a
      · exact e
      · exact absurd (if_neg e) z
    · dsimp only at z
      by_cases e : b = a
      · rw [if_pos e] at z
        cases z
        rw [e]
        exact ⟨ha, by rw [List.length_map]; exact hl, vs, _, rv, ha⟩
      · rw [if_neg e] at z; cases z
  · obtain ⟨o, ho⟩ : ∃ o, K.lookup a = some o := by
      cases q : K.lookup a with
      | none => exact absurd q hk
      | some o => exact ⟨o, rfl⟩
    have e := (KX a o ho).symm.trans ha
    cases e
    refine ⟨fun _ => none, ⟨fun b => .inl rfl, .inr ⟨_, vs.toArray, _, ho, rfl, rfl, rfl, by rw [List.size_toArray, lv]; exact hl, by simpa using rv⟩, fun b z => absurd rfl z, fun z => absurd rfl z⟩, fun b u z => nomatch z⟩
end
/-- the goal that k_head leaves: from the law's function on data -/
theorem walkG {l : PySem.W.OpenLaw} {k : Nat} {q : Program} {loose : List Str} {XP : (Str → Option Value) → Heap → Prop} {YP : World → Heap → Prop} {d : DefRec} {K : Params → PySem.W.Frag} {x : Str} {LF : FN}
    (hn : l.most = some 63) (hdf : d.params.defaults = []) (hr : Room k callerA) (hY : ∀ (w : World) (h : Heap), YP w h → (K w.params).In h)
    (F : ∀ (w : World) (mg : Str → Option Value) (fa : Addr) (h : Heap), (K w.params).In h → h.Ns mainGlobals mg → mg d.name = some (.ref fa) →
      ∃ fd : FuncData, (∀ (s : Shared) (u : Value), BindsTo s fd ⟨[u], []⟩ [(x, u)]) ∧ ∀ base : Heap, (K w.params).In base → base.Ns mainGlobals mg → FG l.prog w (K w.params) mg base k fa fd [x] (spD (K w.params) mg 1 LF))
    (hL : ∀ ns : List Int, ns.length ≤ 63 → LF [.list (ns.map .int)] = some (.ret true (.bool true))) :
    PySem.W.WalkO q loose XP YP l.row.toRowW d [] (fun f vs => PySem.call f vs) := by
  refine Att.attach_call hn hdf fun w s₀ s₁ mg mb fa o pm cd doc a vs ns G Y ho hd hcd hmg hobj hints hlen hg => ?_
  have KX := hY w _ Y
  obtain ⟨fd, hb, hF⟩ := F w mg fa _ KX G.T.g hmg
  obtain ⟨H, S, hok⟩ := scr_ex (P := l.prog) (w := w) KX hobj hints (Nat.le_trans hlen (by rw [sizeLine_eq]; decide))
  refine lawRun KX G.T.g G.T.b G.T.builtins G.T.nolimit hg hobj hr hF hb S hok ⟨rfl, H, [.list (ns.map .int)], _, Same.refl _, .cons (.lst S.sq (RepAll.ints _ ns)) .nil, hL ns hlen, fun v H' N s1 s2 s3 r => ?_⟩
  exact r.blV
end PL
namespace PL
open PySem PySem.Spec PyProof.Rows L2
section
variable {X : Cx} {H0 : En} {W : WX} {e a b c : Expr} {es : List Expr} {f g k : EF} {fs : List EF} {pos p p2 : Pos} {K : PySem.W.Frag} {B H B' H' : Hp} {σ : L2.St} {mg : Str → Option Value} {x : Str}
def eIsa (g : PyData → Bool) (f : EF) : EF := fun ρ => PL.bz (f ρ) fun x => match dat x with
  | some d => some (.ok (.val true (.bool (g d))))
  | none => none
def blsD : List PyData → Option (List Bool)
  | [] => some []
  | .bool i :: ds => (blsD ds).map (i :: ·)
  | _ :: _ => none
theorem blsD_map : ∀ ns : List Bool, blsD (ns.map .bool) = some ns
  | [] => rfl
  | n :: ns => by show (blsD (ns.map .bool)).map _ = _; rw [blsD_map ns]; rfl
theorem blsD_eq : ∀ {ds : List PyData} {ns : List Bool}, blsD ds = some ns → ds = ns.map .bool
  | [], ns, h => by cases h; rfl
  | d :: ds, ns, h => by
    cases d <;> first | cases h | skip
    unfold blsD at h
    cases q : blsD ds with
    | none => rw [q] at h; cases h
    | some ms => rw [q] at h; cases h; rw [blsD_eq q]; rfl
def gAny (d : PyData) : Option PyData := match d with | .list ds => (blsD ds).map fun ns => .bool (ns.any id) | _ => none
def gAll (d : PyData) : Option PyData := match d with | .list ds => (blsD ds).map fun ns => .bool (ns.all id) | _ => none
theorem lst_bls {v : V} {ds : List PyData} {ns : List Bool} (r : Rep (LH K H) v (.list ds)) (h : blsD ds = some ns) : ∃ a, v = .ref a ∧ SqL K H a (ns.map V.bl) := by
  obtain ⟨a, vs, rfl, h1, h2⟩ := r.lstV
  rw [blsD_eq h] at h2
  have := h2.of_bls
  subst this
  exact ⟨a, rfl, h1⟩
theorem crAny (hc : X.calm = true) : CallR X (.builtin "any") (rD1 X.K gAny) := cr1 (cr_any hc) fun K H x d y Q e r h q => by
  subst e
  cases d <;> first | cases h | skip
  rename_i ds
  unfold gAny at h
  dsimp only at h
  cases hi : blsD ds with
  | none => rw [hi] at h; cases h
  | some ns =>
    rw [hi] at h; cases h
    obtain ⟨a, rfl, s⟩ := lst_bls r hi
    exact ⟨a, ns, rfl, s, q⟩
theorem crAll (hc : X.calm = true) : CallR X (.builtin "all") (rD1 X.K gAll) := cr1 (cr_all hc) fun K H x d y Q e r h q => by
  subst e
  cases d <;> first | cases h | skip
  rename_i ds
  unfold gAll at h
  dsimp only at h
  cases hi : blsD ds with
  | none => rw [hi] at h; cases h
  | some ns =>
    rw [hi] at h; cases h
    obtain ⟨a, rfl, s⟩ := lst_bls r hi
    exact ⟨a, ns, rfl, s, q⟩
def fI2 (h : Int → Int → Int) (ss : List Sl) : Option Sl := match ss with
  | [x, y] => match dat x with
    | some (.int i) => match dat y with
      | some (.int j) => some (.val true (.int (h i j)))
      | _ => none
    | _ => none
  | _ => none
def rLs (K : PySem.W.Frag) : List V → Hp → VK → Prop := fun xs H Q => ∃ p ys, xs = [V.ref p] ∧ (SqL K H p ys ∨ SqT K H p ys) ∧ ∀ l, H l = none → Q (.ref l) (upd H l (.lst ys))
theorem crList : CallR X (.type "list") (rLs X.K) := call_list_of
def fLs (ss : List Sl) : Option Sl := match ss with
  | [x] => match lstD x with
    | some (fr, ds) => some (.own fr ds)
    | none => match tupD x with
      | some (fr, ds) => some (.own fr ds)
      | none => none
  | _ => none
theorem cbLs : CB X H0 (rLs X.K) fLs := by
  intro B H ss vs s Q e0 eB r hf hq
  unfold fLs at hf
  split at hf
  · rename_i x
    cases r with
    | cons r1 r =>
      cases r
      split at hf
      · rename_i fr ds hd
        cases hf
        obtain ⟨p, vs, rfl, s1, a1⟩ := r1.lst eB hd
        exact ⟨p, vs, rfl, .inl s1, fun l hl => hq.new eB a1 hl⟩
      · split at hf
        · rename_i fr ds hd
          cases hf
          obtain ⟨p, vs, rfl, s1, a1⟩ := r1.tup eB hd
          exact ⟨p, vs, rfl, .inr s1, fun l hl => hq.new eB a1 hl⟩
        · cases hf
  · cases hf
def fTl (ss : List Sl) : Option Sl := match ss with
  | [x] => match lstD x with
    | some (fr, ds) => some (.val fr (.tuple ds))
    | none => match x with
      | .val fr (.tuple ds) => some (.val fr (.tuple ds))
      | _ => none
  | _ => none
def allAlike (ds : List PyData) : Bool := ds.all fun d => ds.all fun e => PySem.W.alike d e
def isT : PyData → Bool
  | .tuple (_ :: _) => true
  | _ => false
def isO : PyData → Bool
  | .none => false
  | .tuple _ => false
  | _ => true
def gSorted (ds : List PyData) : Option (List PyData) :=
  if allAlike ds = true ∧ (ds.all isT = true ∨ ds.all isO = true) ∧ ds.length ≤ 16777216 ∧ ds.all (fun d => decide (d.depth ≤ 50)) = true then some (ds.mergeSort (PySem.W.dataLe false id)) else none
theorem RepAll.zip {L : Addr → HO → Prop} : ∀ {vs : List V} {ds : List PyData}, RepAll L vs ds → (∀ z ∈ vs.zip ds, Rep L z.1 z.2) ∧ (vs.zip ds).map (·.2) = ds
  | _, _, .nil => ⟨by simp, rfl⟩
  | _, _, .cons r rs => by
    obtain ⟨h1, h2⟩ := RepAll.zip rs
    refine ⟨fun z hz => ?_, ?_⟩
    · rw [List.zip_cons_cons] at hz
      rcases List.mem_cons.mp hz with e | e
      · subst e; exact r
      · exact h1 z e
    · rw [List.zip_cons_cons, List.map_cons, h2]
def fSorted (ss : List Sl) : Option Sl := match ss with
  | [x] => match lstD x with
    | some (fr, ds) => (gSorted ds).map fun ds' => .own fr ds'
    | none => none
  | _ => none
end
end PL
namespace PL
open PySem PySem.Spec PyProof.Rows L2
structure Has (P : Program) (w : World) (K : PySem.W.Frag) (mg : Str → Option Value) (base : Heap) (k : Nat) (x : Str) (ps : List Str) (F : FN) : Prop where
  ex : ∃ f fd, FG P w K mg base k f fd ps (spD K mg ps.length F) ∧ mg x = some (.ref f) ∧ PySem.W.keepIn K (.ref f) = true ∧ Binds K fd ps []
section
variable {X : Cx} {H0 : En} {W : WX} {e a b c : Expr} {es : List Expr} {f g : EF} {fs : List EF} {pos p : Pos} {j k n : Nat} {x : Str} {ps : List Str} {F : FN} {st : Stmt} {qual : Str} {fa : Addr} {fd : FuncData} {P : Program} {w : World} {K : PySem.W.Frag} {mg : Str → Option Value} {base : Heap}
theorem Has.mk' (Fn : Fun K x qual st fa fd) (hm : mg x = some (.ref fa)) (hb : Binds K fd ps []) (h : FG P w K mg base k fa fd ps (spD K mg ps.length F)) : Has P w K mg base k x ps F := ⟨fa, fd, h, hm, Fn.kp, hb⟩
theorem pdCallH (h : Has X.prog X.w X.K X.mg X.base j x ps F) (hr : Room k X.A) (hgd : X.A.guards = some []) (tk : L2N.Takes X W) (ha : PDs X H0 W (e :: es) fs) (hj : j ≤ k := by decide) (hn : fs.length = ps.length := by rfl) (hg : Gl X x := by rfl)
    (hdb : (x == ("__debug__" : Str)) = false := by decide) (he : starEach (e :: es) X.env = (false, eval e X.env) :: starEach es X.env := by rfl) (hpl : (backTo pos (starEach es X.env)).any (·.1) = false := by rfl) :
    PD X H0 W (.Call (.Name x p) (e :: es) [] pos) (eCall F fs) := by
  obtain ⟨f, fd, h1, h2, h3, h4⟩ := h.ex
  exact pdCall h1 (hr.mono hj) hgd h2 h3 h4 tk ha hn hg hdb he hpl
theorem takes0 : L2N.Takes X W0 := fun _ _ ⟨_, _, _, _, _, _, _, _, _, _, _, _, _, _, _, _, w⟩ => w.elim
/-- a built-in of one datum -/
theorem pdB1 {id : String} {G : PyData → Option PyData} (hc : CallR X (.builtin id) (rD1 X.K G)) (hm : X.mg x = none) (hv : bootBuiltins x = some (.builtin id)) (ha : PD X H0 W e f) (hg : Gl X x := by rfl) (hn : x ≠ "__name__" := by decide) (hdb : (x == ("__debug__" : Str)) = false := by decide)
    (he : starEach [e] X.env = [(false, eval e X.env)] := by rfl) : PD X H0 W (.Call (.Name x p) [e] [] pos) (eCB (fD1 G) [f]) :=
  pdCB (pdsCons ha pdsNil (by rw [he]; rfl)) (cbD1 G) fun h => pe_callB hc hg hm hv h hn hdb (by rw [he]; rfl) (by rfl)
theorem pdTy1 {T : String} {G : PyData → Option PyData} (hc : CallR X (.type T) (rD1 X.K G)) (hm : X.mg x = none) (hv : bootBuiltins x = some (.type T)) (ha : PD X H0 W e f) (hg : Gl X x := by rfl) (hn : x ≠ "__name__" := by decide) (hdb : (x == ("__debug__" : Str)) = false := by decide)
    (he : starEach [e] X.env = [(false, eval e X.env)] := by rfl) : PD X H0 W (.Call (.Name x p) [e] [] pos) (eCB (fD1 G) [f]) :=
  pdCB (pdsCons ha pdsNil (by rw [he]; rfl)) (cbD1 G) fun h => pe_callTy hc hg hm hv h hn hdb (by rw [he]; rfl) (by rfl)
theorem pdTyL {T : String} {r : List V → Hp → VK → Prop} {G : List Sl → Option Sl} (hc : CallR X (.type T) r) (hcb : CB X H0 r G) (hm : X.mg x = none) (hv : bootBuiltins x = some (.type T)) (ha : PD X H0 W e f) (hg : Gl X x := by rfl) (hn : x ≠ "__name__" := by decide) (hdb : (x == ("__debug__" : Str)) = false := by decide)
    (he : starEach [e] X.env = [(false, eval e X.env)] := by rfl) : PD X H0 W (.Call (.Name x p) [e] [] pos) (eCB G [f]) :=
  pdCB (pdsCons ha pdsNil (by rw [he]; rfl)) hcb fun h => pe_callTy hc hg hm hv h hn hdb (by rw [he]; rfl) (by rfl)
end
section
variable {X : Cx} {H0 : En} {W : WX} {K : PySem.W.Frag} {B H : Hp} {σ : L2.St} {ρ : Ev} {sts : List Stmt} {F : SF}
/-- an owned list becomes an own list of frozen items -/
def gOwn (i : Nat) (ρ : Ev) : Option Ev := match ρ[i]? with
  | some (.full (.list ds)) => some (ρ.set i (.own true ds))
  | some _ => some ρ
  | none => none
def gh (g : Ev → Option Ev) (F : SF) : SF := fun ρ => match g ρ with | some ρ' => F ρ' | none => none
end
end PL
namespace PL
open PySem PySem.Spec PyProof.Rows L2
section
variable {X : Cx} {H0 : En} {W : WX} {e a b c tg : Expr} {es : List Expr} {f g k : EF} {fs : List EF} {pos p : Pos} {K : PySem.W.Frag} {B H B' H' : Hp} {σ : L2.St} {mg : Str → Option Value} {ρ : Ev}
def rngC (lo c : Int) (n : Nat) : List Sl := (List.range n).map fun (i : Nat) => .val true (.int (lo + (i : Int) * c))
def rN (i j c : Int) : Nat := (Builtin.Range.rangeSize i j c).toNat
noncomputable def iR3 (fs : List EF) : IF := fun ρ => match evs fs ρ with
  | some (.ok ss) => match ss.map dat with
    | [some (.int i), some (.int j), some (.int c)] => if cd (c ≠ 0 ∧ c.natAbs < 1073741824 ∧ Builtin.Range.small i j c = true) = true then some (.ok (rngC i c (rN i j c))) else none
    | _ => none
  | some (.ex n) => some (.ex n)
  | none => none
def iM (mk : Sl → Option (List Sl)) (f : EF) : IF := fun ρ => match f ρ with
  | some (.ok s) => match mk (frz s) with
    | some its => some (.ok its)
    | none => none
  | some (.ex n) => some (.ex n)
  | none => none
def OKI (K : PySem.W.Frag) (mg : Str → Option Value) (H0 : En) (W : WX) (B H : Hp) (σ : L2.St) (o : Option Ri) (R : It → Hp → Prop) : Prop :=
  (∃ its, o = some (.ok its) ∧ ∀ J B' H', Nx B H B' H' → ItOk K H0 B' J its → R J H') ∨ ∃ n, o = some (.ex n) ∧ KX mg B H σ W n
/-- enumerate -/
def enI (fr : Bool) : Nat → List PyData → List Sl
  | _, [] => []
  | k, d :: ds => .val fr (.tuple [.int k, d]) :: enI fr (k + 1) ds
def mkEn : Sl → Option (List Sl)
  | .val fr (.list ds) => some (enI fr 0 ds)
  | _ => none
/-- a tuple's items -/
def mkTp : Sl → Option (List Sl)
  | .val fr (.tuple ds) => some (ds.map (mkv fr))
  | _ => none
def zpI (fr : Bool) : List PyData → List PyData → List Sl
  | d :: ds, e :: es => .val fr (.tuple [d, e]) :: zpI fr ds es
  | _, _ => []
def mkZp : Sl → Sl → Option (List Sl)
  | .val fr (.list ds), .val fr' (.list es) => some (zpI (fr && fr') ds es)
  | _, _ => none
def iZp (f g : EF) : IF := fun ρ => match f ρ with
  | some (.ok s) => iM (mkZp (frz s)) g ρ
  | some (.ex n) => some (.ex n)
  | none => none
theorem OKI.nx {o : Option Ri} {R : It → Hp → Prop} (q : OKI K mg H0 W B H σ o R) (n : Nx B H B' H') : OKI K mg H0 W B' H' σ o R := by
  rcases q with ⟨its, h1, h2⟩ | ⟨m, h1, h2⟩
  · exact .inl ⟨its, h1, fun J B2 H2 n2 => h2 J B2 H2 (n.trans n2)⟩
  · exact .inr ⟨m, h1, h2.nx n⟩
end
end PL
namespace PL
open PySem PySem.Spec PyProof.Rows L2
def fgt : List Nat → Ev → Ev
  | [], ρ => ρ
  | i :: D, ρ => fgt D (ρ.set i .und)
theorem ER.fgt {K : PySem.W.Frag} {H0 : En} {B H : Hp} {σ : L2.St} : ∀ (D : List Nat) {ρ : Ev}, ER K H0 B H σ ρ → ER K H0 B H σ (fgt D ρ)
  | [], _, E => E
  | i :: D, ρ, E => by
    refine ER.fgt D (ρ := ρ.set i .und) ?_
    obtain ⟨F, f1, f2, f3, f4⟩ := E.ex
    refine ⟨E.e0, E.b0, E.n0, E.eB, by rw [List.length_set]; exact E.len, F, f1, f2, f3, fun j u hu => ?_⟩
    by_cases hj : j = i
    · subst hj
      have hl : j < ρ.length := by have := (List.getElem?_eq_some_iff.mp hu).1; rwa [List.length_set] at this
      rw [List.getElem?_set_self hl] at hu
      cases hu
      trivial
    · rw [List.getElem?_set_ne (Ne.symm hj)] at hu
      exact f4 j u hu
section
variable {X : Cx} {H0 : En} {W : WX} {K : PySem.W.Frag} {B H : Hp} {σ : L2.St} {ρ : Ev} {sts : List Stmt} {F : SF} {e c tg : Expr} {pos : Pos} {t : BF}
def sFg (D : List Nat) (F : SF) : SF := fun ρ => F (fgt D ρ)
theorem psdsFg {D : List Nat} (h : PSDs X H0 W sts F) : PSDs X H0 W sts (sFg D F) := psdsGhost (fun ρ => some (fgt D ρ)) (fun B H σ ρ ρ' E q => by cases q; exact ⟨B, E.fgt D, Same.refl _⟩) h
def turn (D : List Nat) (t : GF) (body : SF) (s : Sl) (ρ : Ev) : Option Out := match t s ρ with
  | none => none
  | some ρ1 => match body ρ1 with
    | some (.nx ρ2) => some (.nx (fgt D ρ2))
    | some (.ct ρ2) => some (.nx (fgt D ρ2))
    | some (.bk ρ2) => some (.bk (fgt D ρ2))
    | r => r
def forT (tn : Sl → Ev → Option Out) : List Sl → Ev → Option Out
  | [], ρ => some (.nx ρ)
  | s :: ss, ρ => match tn s ρ with
    | some (.nx ρ2) => forT tn ss ρ2
    | some (.bk ρ2) => some (.nx ρ2)
    | r => r
def sForD (D : List Nat) (g : IF) (t : GF) (body : SF) : SF := fun ρ => match g ρ with
  | some (.ok its) => forT (turn D t body) its (fgt D ρ)
  | some (.ex n) => some (.ex n ρ)
  | none => none
theorem psdForD {D : List Nat} {g : IF} {tt : GF} (hp : PassesOwn (model X.prog X.w) X.A X.env X.xe) (hc : X.calm = true) (hi : PID X H0 W tg e g) (hg : PGD X H0 tg tt) (hb : PSDs X H0 W sts F) (hs : ∀ x, foldedSetIterable e X.env x = pure x := by intro _; rfl) : PSD X H0 W (.For tg e sts [] pos) (sForD D g tt F) := ⟨psWeak (ps_for hp hc hi.pi hg.pg hb.pss hs) fun D' σ H ⟨B, ρ, o, E, h, ho⟩ => ⟨B, ρ, E, by
  unfold sForD at h
  cases r : g ρ with
  | none => rw [r] at h; cases h
  | some q =>
    rw [r] at h
    cases q with
    | ex n => cases h; exact .inr ⟨n, rfl, kx_of E ho⟩
    | ok its =>
      refine .inl ⟨its, rfl, fun J B1 H1 n1 I1 => ?_⟩
      dsimp only at h
      refine ⟨fun i m σ H => m = its.length - i ∧ i ≤ its.length ∧ ∃ B2 ρ2, ER X.K H0 B2 H σ ρ2 ∧ Same B1 B2 ∧ forT (turn D tt F) (its.drop i) ρ2 = some o, ⟨_, rfl, Nat.zero_le _, B1, fgt D ρ, (E.nx n1).fgt D, Same.refl _, h⟩, ?_⟩
      rintro i m σ3 H3 ⟨rfl, hi, B2, ρ2, E2, s2, h2⟩
      by_cases hlt : i < its.length
      · refine .inr ⟨I1.go i B2 H3 s2 E2.eB hlt, ?_⟩
        have hd : its.drop i = its[i] :: its.drop (i + 1) := List.drop_eq_getElem_cons hlt
        rw [hd] at h2
        unfold forT turn at h2
        cases rt : tt its[i] ρ2 with
        | none => rw [rt] at h2; cases h2
        | some ρ3 =>
          rw [rt] at h2
          dsimp only at h2
          refine ⟨fun σ' H' => ∃ B4 ρ4, ER X.K H0 B4 H' σ' ρ4 ∧ Same B1 B4 ∧ forT (turn D tt F) (its.drop (i + 1)) ρ4 = some o, fun σ' H' ⟨B4, ρ4, E4, s4, h4⟩ => ⟨_, by omega, rfl, hlt, B4, ρ4, E4, s4, h4⟩, fun x H4 hy => ?_⟩
          obtain ⟨B3, n3, rz⟩ := I1.yld i B2 H3 x H4 its[i] s2 E2.eB E2.e0 (List.getElem?_eq_getElem hlt) hy
          refine ⟨B3, ρ2, its[i], ρ3, E2.nx n3, rz, rt, fun σ5 E5 => ?_⟩
          have s15 : Same B1 B3 := s2.trans n3.b
          cases rb : F ρ3 with
          | none => rw [rb] at h2; cases h2
          | some ob =>
            rw [rb] at h2
            refine ⟨B3, ρ3, ob, E5, rb, ?_⟩
            cases ob with
            | nx ρ6 => exact fun σ6 B6 H6 E6 s6 => ⟨B6, _, E6.fgt D, s15.trans s6, h2⟩
            | ct ρ6 => exact fun σ6 B6 H6 E6 s6 => ⟨B6, _, E6.fgt D, s15.trans s6, h2⟩
            | bk ρ6 => cases h2; exact fun σ6 B6 H6 E6 s6 => ho σ6 B6 H6 (E6.fgt D) ((n1.b.trans s15).trans s6)
            | rt s => cases h2; exact ho.same (n1.b.trans s15)
            | ex n ρ6 => cases h2; exact ho.same (n1.b.trans s15)
      · have ei : i = its.length := by omega
        subst ei
        rw [List.drop_length] at h2
        cases h2
        exact .inl ⟨I1.stop _ B2 H3 s2 E2.eB (Nat.le_refl _), ho σ3 B2 H3 E2 (n1.b.trans s2)⟩⟩⟩
def wturn (D : List Nat) (t : BF) (body : SF) (ρ : Ev) : Option Out := match t ρ with
  | some (.ok true) => match body ρ with
    | some (.nx ρ2) => some (.nx (fgt D ρ2))
    | some (.ct ρ2) => some (.nx (fgt D ρ2))
    | some (.bk ρ2) => some (.bk (fgt D ρ2))
    | r => r
  | some (.ok false) => some (.bk ρ)
  | some (.ex n) => some (.ex n ρ)
  | none => none
def whileT (wt : Ev → Option Out) : Nat → Ev → Option Out
  | 0, _ => none
  | n + 1, ρ => match wt ρ with
    | some (.nx ρ2) => whileT wt n ρ2
    | some (.bk ρ2) => some (.nx ρ2)
    | r => r
def fuel : Nat := 1000000000000000000
def sWhileD (D : List Nat) (t : BF) (body : SF) : SF := fun ρ => whileT (wturn D t body) fuel (fgt D ρ)
end
theorem forT_inv {α : Type} {tn : Sl → Ev → Option Out} {mk : α → Sl} (P : List α → Ev → Prop) (h : ∀ a l ρ, P (a :: l) ρ → ∃ ρ', tn (mk a) ρ = some (.nx ρ') ∧ P l ρ') : ∀ (l : List α) (ρ : Ev), P l ρ → ∃ ρ', forT tn (l.map mk) ρ = some (.nx ρ') ∧ P [] ρ'
  | [], ρ, p => ⟨ρ, rfl, p⟩
  | a :: l, ρ, p => by
    obtain ⟨ρ', h1, h2⟩ := h a l ρ p
    obtain ⟨ρ2, h3, h4⟩ := forT_inv P h l ρ' h2
    refine ⟨ρ2, ?_, h4⟩
    rw [List.map_cons, forT, h1]
    exact h3
theorem forT_run {α : Type} {tn : Sl → Ev → Option Out} {mk : α → Sl} (P : List α → Ev → Prop) (R : Option Out → Prop) (h0 : ∀ ρ, P [] ρ → R (some (.nx ρ)))
    (h : ∀ a l ρ, P (a :: l) ρ → (∃ ρ', tn (mk a) ρ = some (.nx ρ') ∧ P l ρ') ∨ (∃ ρ', tn (mk a) ρ = some (.bk ρ') ∧ R (some (.nx ρ'))) ∨ (∃ s, tn (mk a) ρ = some (.rt s) ∧ R (some (.rt s))) ∨ ∃ n ρ', tn (mk a) ρ = some (.ex n ρ') ∧ R (some (.ex n ρ'))) : ∀ (l : List α) (ρ : Ev), P l ρ → R (forT tn (l.map mk) ρ)
  | [], ρ, p => h0 ρ p
  | a :: l, ρ, p => by
    rw [List.map_cons, forT]
    rcases h a l ρ p with ⟨ρ', h1, h2⟩ | ⟨ρ', h1, h2⟩ | ⟨s, h1, h2⟩ | ⟨n, ρ', h1, h2⟩
    · rw [h1]; exact forT_run P R h0 h l ρ' h2
    · rw [h1]; exact h2
    · rw [h1]; exact h2
    · rw [h1]; exact h2
theorem forT_nx {α : Type} {tn : Sl → Ev → Option Out} {mk : α → Sl} (P : List α → Ev → Prop) (R : Option Out → Prop) {l : List α} {ρ : Ev} (p : P l ρ) (h : ∀ a l ρ, P (a :: l) ρ → ∃ ρ', tn (mk a) ρ = some (.nx ρ') ∧ P l ρ') (h0 : ∀ ρ, P [] ρ → R (some (.nx ρ))) : R (forT tn (l.map mk) ρ) := by
  obtain ⟨ρ', h1, h2⟩ := forT_inv P h l ρ p
  rw [h1]
  exact h0 ρ' h2
section
universe u v
variable {α : Type u} {β : Type v}
theorem bs1 (a : α) (l : List α) : (a :: l)[0]? = some a := rfl
theorem bs2 (a : α) (l : List α) (n : Nat) : (a :: l)[n + 1]? = l[n]? := rfl
theorem bs3 (a b : α) (l : List α) : (a :: l).set 0 b = b :: l := rfl
theorem bs4 (a b : α) (l : List α) (n : Nat) : (a :: l).set (n + 1) b = a :: l.set n b := rfl
theorem bs5 (p : α → Bool) : ([] : List α).all p = true := rfl
theorem bs6 (p : α → Bool) (a : α) (l : List α) : (a :: l).all p = (p a && l.all p) := rfl
theorem bs7 (b : Bool) : (b && true) = b := Bool.and_true b
theorem bs8 (b : Bool) : (true && b) = b := Bool.true_and b
theorem bs9 (b : Bool) : (b || true) = true := Bool.or_true b
theorem bs10 (b : Bool) : (true || b) = true := Bool.true_or b
theorem bs11 (b : Bool) : (b || false) = b := Bool.or_false b
theorem bs12 (b : Bool) : (false || b) = b := Bool.false_or b
theorem bs13 (b : Bool) : (b && false) = false := Bool.and_false b
theorem bs14 (b : Bool) : (false && b) = false := Bool.false_and b
theorem bs15 : (!true) = false := rfl
theorem bs16 : (!false) = true := rfl
theorem bs17 (b : Bool) : (false ^^ b) = b := Bool.false_xor b
theorem bs18 (b : Bool) : (true ^^ b) = !b := Bool.true_xor b
theorem bs19 (f : α → β) (a : α) : (some a).map f = some (f a) := rfl
theorem bs20 : ([] : List α).length = 0 := rfl
theorem bs21 (a : α) (l : List α) : (a :: l).length = l.length + 1 := rfl
theorem bs22 (f : α → β) (l : List α) : (l.map f).length = l.length := List.length_map ..
theorem bs23 (l : List α) : [] ++ l = l := rfl
theorem bs24 (f : α → β) (a : α) (l : List α) : (a :: l).map f = f a :: l.map f := rfl
theorem bs25 (f : α → β) : ([] : List α).map f = [] := rfl
theorem bs26 : (¬ True) = False := not_true_eq_false
theorem bs27 : (¬ False) = True := not_false_eq_true
theorem bs28 (n : Nat) : 0 ≤ n := Nat.zero_le n
theorem bs29 (p : Prop) : (p ∧ p) = p := and_self p
theorem bs30 (p : Prop) : (True ∧ p) = p := true_and p
theorem bs31 (p : Prop) : (p ∧ True) = p := and_true p
theorem bs32 (a b : α) : (a ≠ b) = ¬ a = b := rfl
theorem bs33 (i : Int) : PL.scal (.int i) = true := rfl
theorem bs34 (i : Bool) : PL.scal (.bool i) = true := rfl
theorem bs35 (i : Str) : PL.scal (.str i) = true := rfl
theorem bs36 : PL.scal .none = true := rfl
theorem bs37 (i : List PyData) : PL.scal (.list i) = false := rfl
theorem bs38 (i : List PyData) : PL.scal (.tuple i) = false := rfl
theorem bs39 : ((0 : Nat) : Int) = 0 := rfl
theorem bs40 : ((1 : Nat) : Int) = 1 := rfl
theorem bs41 (n : Nat) : ((OfNat.ofNat n : Nat) : Int) = OfNat.ofNat n := rfl
end
def kSeq (o : Option Out) (g : SF) : Option Out := match o with | some (.nx ρ') => g ρ' | r => r
theorem ev_seq (f g : SF) (ρ : Ev) : sSeq f g ρ = kSeq (f ρ) g := rfl
theorem kSeq_nx (ρ : Ev) (g : SF) : kSeq (some (.nx ρ)) g = g ρ := rfl
theorem kSeq_rt (s : Sl) (g : SF) : kSeq (some (.rt s)) g = some (.rt s) := rfl
theorem kSeq_bk (s : Ev) (g : SF) : kSeq (some (.bk s)) g = some (.bk s) := rfl
theorem kSeq_ct (s : Ev) (g : SF) : kSeq (some (.ct s)) g = some (.ct s) := rfl
theorem kSeq_ex (n : Str) (s : Ev) (g : SF) : kSeq (some (.ex n s)) g = some (.ex n s) := rfl
theorem ev_nil (ρ : Ev) : sNil ρ = some (.nx ρ) := rfl
theorem ev_pass (ρ : Ev) : sPass ρ = some (.nx ρ) := rfl
theorem ev_break (ρ : Ev) : sBreak ρ = some (.bk ρ) := rfl
theorem ev_cont (ρ : Ev) : sCont ρ = some (.ct ρ) := rfl
theorem ev_retn (ρ : Ev) : sRetN ρ = some (.rt (.val true .none)) := rfl
theorem ev_fg (D : List Nat) (F : SF) (ρ : Ev) : sFg D F ρ = F (fgt D ρ) := rfl
theorem fgt_nil (ρ : Ev) : fgt [] ρ = ρ := rfl
theorem fgt_cons (i : Nat) (D : List Nat) (ρ : Ev) : fgt (i :: D) ρ = fgt D (ρ.set i .und) := rfl
def kGh (o : Option Ev) (F : SF) : Option Out := match o with | some ρ' => F ρ' | none => none
theorem ev_gh (g : Ev → Option Ev) (F : SF) (ρ : Ev) : gh g F ρ = kGh (g ρ) F := rfl
theorem kGh_some (ρ : Ev) (F : SF) : kGh (some ρ) F = F ρ := rfl
def kFrz (i : Nat) (ρ : Ev) (o : Option Sl) : Option Ev := match o with | some s => some (ρ.set i (frz s)) | none => none
theorem ev_gfrz (i : Nat) (ρ : Ev) : gFrz i ρ = kFrz i ρ ρ[i]? := by unfold gFrz kFrz; rfl
theorem kFrz_some (i : Nat) (ρ : Ev) (s : Sl) : kFrz i ρ (some s) = some (ρ.set i (frz s)) := rfl
def kOwn (i : Nat) (ρ : Ev) (o : Option Sl) : Option Ev := match o with | some (.full (.list ds)) => some (ρ.set i (.own true ds)) | some _ => some ρ | none => none
theorem ev_gown (i : Nat) (ρ : Ev) : gOwn i ρ = kOwn i ρ ρ[i]? := by unfold gOwn kOwn; rfl
theorem kOwn_full (i : Nat) (ρ : Ev) (ds : List PyData) : kOwn i ρ (some (.full (.list ds))) = some (ρ.set i (.own true ds)) := rfl
theorem kOwn_own (i : Nat) (ρ : Ev) (fr : Bool) (ds : List PyData) : kOwn i ρ (some (.own fr ds)) = some ρ := rfl
theorem kOwn_val (i : Nat) (ρ : Ev) (fr : Bool) (d : PyData) : kOwn i ρ (some (.val fr d)) = some ρ := rfl
def kSetZ (i : Nat) (ρ : Ev) (o : Option Rs) : Option Out := bSz o ρ fun s => if stb s = true then some (.nx (ρ.set i s)) else none
theorem ev_setZ (i : Nat) (f : EF) (ρ : Ev) : sSetZ i f ρ = kSetZ i ρ (f ρ) := rfl
theorem kSetZ_val (i : Nat) (ρ : Ev) (fr : Bool) (d : PyData) : kSetZ i ρ (some (.ok (.val fr d))) = some (.nx (ρ.set i (.val fr d))) := rfl
theorem kSetZ_own (i : Nat) (ρ : Ev) (fr : Bool) (d : List PyData) : kSetZ i ρ (some (.ok (.own fr d))) = some (.nx (ρ.set i (.val fr (.list d)))) := rfl
theorem kSetZ_full (i : Nat) (ρ : Ev) (d : PyData) : kSetZ i ρ (some (.ok (.full d))) = some (.nx (ρ.set i (.val true d))) := rfl
theorem kSetZ_ex (i : Nat) (ρ : Ev) (n : Str) : kSetZ i ρ (some (.ex n)) = some (.ex n ρ) := rfl
def kSet (i : Nat) (ρ : Ev) (o : Option Rs) : Option Out := bS o ρ fun s => if stb s = true then some (.nx (ρ.set i s)) else none
theorem ev_set (i : Nat) (f : EF) (ρ : Ev) : sSet i f ρ = kSet i ρ (f ρ) := rfl
theorem kSet_val (i : Nat) (ρ : Ev) (fr : Bool) (d : PyData) : kSet i ρ (some (.ok (.val fr d))) = some (.nx (ρ.set i (.val fr d))) := rfl
theorem kSet_own (i : Nat) (ρ : Ev) (fr : Bool) (d : List PyData) : kSet i ρ (some (.ok (.own fr d))) = some (.nx (ρ.set i (.own fr d))) := rfl
theorem kSet_full (i : Nat) (ρ : Ev) (d : PyData) : kSet i ρ (some (.ok (.full d))) = some (.nx (ρ.set i (.full d))) := rfl
theorem kSet_ex (i : Nat) (ρ : Ev) (n : Str) : kSet i ρ (some (.ex n)) = some (.ex n ρ) := rfl
def kRet (ρ : Ev) (o : Option Rs) : Option Out := bS o ρ fun s => if stb s = true then some (.rt s) else none
theorem ev_ret (f : EF) (ρ : Ev) : sRet f ρ = kRet ρ (f ρ) := rfl
theorem kRet_val (ρ : Ev) (fr : Bool) (d : PyData) : kRet ρ (some (.ok (.val fr d))) = some (.rt (.val fr d)) := rfl
theorem kRet_own (ρ : Ev) (fr : Bool) (d : List PyData) : kRet ρ (some (.ok (.own fr d))) = some (.rt (.own fr d)) := rfl
theorem kRet_full (ρ : Ev) (d : PyData) : kRet ρ (some (.ok (.full d))) = some (.rt (.full d)) := rfl
theorem kRet_ex (ρ : Ev) (n : Str) : kRet ρ (some (.ex n)) = some (.ex n ρ) := rfl
def kRetO (o : Option Sl) : Option Out := match o with
  | some (.own fr ds) => some (.rt (.own fr ds))
  | some (.full d) => some (.rt (.full d))
  | some (.val fr d) => some (.rt (.val fr d))
  | _ => none
theorem ev_retO (i : Nat) (ρ : Ev) : sRetOwn i ρ = kRetO ρ[i]? := rfl
theorem kRetO_own (fr : Bool) (ds : List PyData) : kRetO (some (.own fr ds)) = some (.rt (.own fr ds)) := rfl
theorem kRetO_val (fr : Bool) (d : PyData) : kRetO (some (.val fr d)) = some (.rt (.val fr d)) := rfl
theorem kRetO_full (d : PyData) : kRetO (some (.full d)) = some (.rt (.full d)) := rfl
def kExpr (ρ : Ev) (o : Option Rs) : Option Out := bSz o ρ fun _ => some (.nx ρ)
theorem ev_expr (f : EF) (ρ : Ev) : sExpr f ρ = kExpr ρ (f ρ) := rfl
theorem kExpr_ok (ρ : Ev) (s : Sl) : kExpr ρ (some (.ok s)) = some (.nx ρ) := rfl
theorem kExpr_ex (ρ : Ev) (n : Str) : kExpr ρ (some (.ex n)) = some (.ex n ρ) := rfl
def kIf (o : Option Rb) (F G : SF) (ρ : Ev) : Option Out := match o with
  | some (.ok true) => F ρ
  | some (.ok false) => G ρ
  | some (.ex n) => some (.ex n ρ)
  | none => none
theorem ev_if (t : BF) (F G : SF) (ρ : Ev) : sIf t F G ρ = kIf (t ρ) F G ρ := rfl
theorem kIf_true (F G : SF) (ρ : Ev) : kIf (some (.ok true)) F G ρ = F ρ := rfl
theorem kIf_false (F G : SF) (ρ : Ev) : kIf (some (.ok false)) F G ρ = G ρ := rfl
def kFor (ρ ρ' : Ev) (o : Option Ri) (tn : Sl → Ev → Option Out) : Option Out := match o with
  | some (.ok its) => forT tn its ρ'
  | some (.ex n) => some (.ex n ρ)
  | none => none
theorem ev_for (D : List Nat) (g : IF) (t : GF) (b : SF) (ρ : Ev) : sForD D g t b ρ = kFor ρ (fgt D ρ) (g ρ) (turn D t b) := rfl
theorem kFor_ok (ρ ρ' : Ev) (its : List Sl) (tn : Sl → Ev → Option Out) : kFor ρ ρ' (some (.ok its)) tn = forT tn its ρ' := rfl
theorem ev_while (D : List Nat) (t : BF) (b : SF) (ρ : Ev) : sWhileD D t b ρ = whileT (wturn D t b) fuel (fgt D ρ) := rfl
def kTurn (D : List Nat) (o : Option Out) : Option Out := match o with
  | some (.nx ρ2) => some (.nx (fgt D ρ2))
  | some (.ct ρ2) => some (.nx (fgt D ρ2))
  | some (.bk ρ2) => some (.bk (fgt D ρ2))
  | r => r
def kTurn1 (D : List Nat) (o : Option Ev) (body : SF) : Option Out := match o with | none => none | some ρ1 => kTurn D (body ρ1)
theorem ev_turn (D : List Nat) (t : GF) (body : SF) (s : Sl) (ρ : Ev) : turn D t body s ρ = kTurn1 D (t s ρ) body := by
  unfold turn kTurn1 kTurn
  rfl
theorem kTurn1_some (D : List Nat) (ρ : Ev) (body : SF) : kTurn1 D (some ρ) body = kTurn D (body ρ) := rfl
theorem kTurn_nx (D : List Nat) (ρ : Ev) : kTurn D (some (.nx ρ)) = some (.nx (fgt D ρ)) := rfl
theorem kTurn_ct (D : List Nat) (ρ : Ev) : kTurn D (some (.ct ρ)) = some (.nx (fgt D ρ)) := rfl
theorem kTurn_bk (D : List Nat) (ρ : Ev) : kTurn D (some (.bk ρ)) = some (.bk (fgt D ρ)) := rfl
theorem kTurn_rt (D : List Nat) (s : Sl) : kTurn D (some (.rt s)) = some (.rt s) := rfl
theorem kTurn_ex (D : List Nat) (n : Str) (ρ : Ev) : kTurn D (some (.ex n ρ)) = some (.ex n ρ) := rfl
def kW (D : List Nat) (o : Option Rb) (body : SF) (ρ : Ev) : Option Out := match o with
  | some (.ok true) => kTurn D (body ρ)
  | some (.ok false) => some (.bk ρ)
  | some (.ex n) => some (.ex n ρ)
  | none => none
theorem ev_wturn (D : List Nat) (t : BF) (body : SF) (ρ : Ev) : wturn D t body ρ = kW D (t ρ) body ρ := by
  unfold wturn kW kTurn
  rfl
theorem kW_true (D : List Nat) (body : SF) (ρ : Ev) : kW D (some (.ok true)) body ρ = kTurn D (body ρ) := rfl
theorem kW_false (D : List Nat) (body : SF) (ρ : Ev) : kW D (some (.ok false)) body ρ = some (.bk ρ) := rfl
theorem ev_gN (i : Nat) (fr : Bool) (d : PyData) (ρ : Ev) : gN i (.val fr d) ρ = some (ρ.set i (.val fr d)) := rfl
def kT (is : List Nat) (ρ : Ev) (o : Option (List Sl)) : Option Ev := match o with | some ss => gSets is ss ρ | none => none
theorem ev_gT (is : List Nat) (s : Sl) (ρ : Ev) : gT is s ρ = kT is ρ (itemsT s) := rfl
theorem kT_some (is : List Nat) (ρ : Ev) (ss : List Sl) : kT is ρ (some ss) = gSets is ss ρ := rfl
theorem itemsT_val (fr : Bool) (ds : List PyData) : itemsT (.val fr (.tuple ds)) = some (ds.map (mkv fr)) := rfl
theorem gSets_nil (ρ : Ev) : gSets [] [] ρ = some ρ := rfl
theorem gSets_val (i : Nat) (is : List Nat) (fr : Bool) (d : PyData) (ss : List Sl) (ρ : Ev) : gSets (i :: is) (.val fr d :: ss) ρ = gSets is ss (ρ.set i (.val fr d)) := rfl
theorem mkv_int (fr : Bool) (i : Int) : mkv fr (.int i) = .val true (.int i) := by cases fr <;> rfl
theorem mkv_bool (fr : Bool) (i : Bool) : mkv fr (.bool i) = .val true (.bool i) := by cases fr <;> rfl
theorem mkv_str (fr : Bool) (i : Str) : mkv fr (.str i) = .val true (.str i) := by cases fr <;> rfl
theorem mkv_none (fr : Bool) : mkv fr .none = .val true .none := by cases fr <;> rfl
theorem mkv_list (fr : Bool) (ds : List PyData) : mkv fr (.list ds) = .val fr (.list ds) := by cases fr <;> rfl
theorem mkv_tuple (fr : Bool) (ds : List PyData) : mkv fr (.tuple ds) = .val fr (.tuple ds) := by cases fr <;> rfl
def kU (ρ : Ev) (o : Option Ev) : Option Out := match o with | some ρ' => some (.nx ρ') | none => none
def kUnp (is : List Nat) (ρ : Ev) (o : Option Rs) : Option Out := bSz o ρ fun s => kU ρ (gT is s ρ)
theorem ev_unp (is : List Nat) (f : EF) (ρ : Ev) : sUnp is f ρ = kUnp is ρ (f ρ) := by
  unfold sUnp kUnp kU
  rfl
theorem kUnp_val (is : List Nat) (ρ : Ev) (fr : Bool) (d : PyData) : kUnp is ρ (some (.ok (.val fr d))) = kU ρ (gT is (.val fr d) ρ) := rfl
theorem kUnp_full (is : List Nat) (ρ : Ev) (d : PyData) : kUnp is ρ (some (.ok (.full d))) = kU ρ (gT is (.val true d) ρ) := rfl
theorem kU_some (ρ ρ' : Ev) : kU ρ (some ρ') = some (.nx ρ') := rfl
def kA (i : Nat) (ρ : Ev) (o : Option Sl) : Option Out := match o with | some s => some (.nx (ρ.set i s)) | none => none
def kAug (i : Nat) (F : PyData → PyData → Option PyData) (ρ : Ev) (a b : Option Rs) : Option Out := bSz a ρ fun x => bSz b ρ fun y => kA i ρ (fD F x y)
theorem ev_aug (i : Nat) (F : PyData → PyData → Option PyData) (f : EF) (ρ : Ev) : sAug i F f ρ = kAug i F ρ (eVar i ρ) (f ρ) := by
  unfold sAug kAug kA
  rfl
theorem kAug_val (i : Nat) (F : PyData → PyData → Option PyData) (ρ : Ev) (fr fr' : Bool) (d d' : PyData) : kAug i F ρ (some (.ok (.val fr d))) (some (.ok (.val fr' d'))) = kA i ρ (fD F (.val fr d) (.val fr' d')) := rfl
theorem kA_some (i : Nat) (ρ : Ev) (s : Sl) : kA i ρ (some s) = some (.nx (ρ.set i s)) := rfl
def kApp (i : Nat) (ρ : Ev) (o : Option Sl) (r : Option Rs) : Option Out := match o with
  | some (.own fr ds) => bSz r ρ fun s => match stor s with
    | some (f', d) => if ds.length < 16777216 then some (.nx (ρ.set i (.own (fr && f') (ds ++ [d])))) else none
    | none => none
  | _ => none
theorem ev_app (i : Nat) (f : EF) (ρ : Ev) : sApp i f ρ = kApp i ρ ρ[i]? (f ρ) := by
  unfold sApp kApp
  rfl
theorem kApp_val (i : Nat) (ρ : Ev) (fr : Bool) (ds : List PyData) (f' : Bool) (d : PyData) (h : ds.length < 16777216) : kApp i ρ (some (.own fr ds)) (some (.ok (.val f' d))) = some (.nx (ρ.set i (.own (fr && (f' || scal d)) (ds ++ [d])))) := by
  show (if ds.length < 16777216 then _ else _) = _
  rw [if_pos h]
theorem kApp_own (i : Nat) (ρ : Ev) (fr : Bool) (ds : List PyData) (f' : Bool) (d : List PyData) (h : ds.length < 16777216) : kApp i ρ (some (.own fr ds)) (some (.ok (.own f' d))) = some (.nx (ρ.set i (.own (fr && f') (ds ++ [.list d])))) := by
  show (if ds.length < 16777216 then some (Out.nx (ρ.set i (.own (fr && (f' || false)) (ds ++ [.list d])))) else _) = _
  rw [if_pos h, Bool.or_false]
theorem kApp_full (i : Nat) (ρ : Ev) (fr : Bool) (ds : List PyData) (d : PyData) (h : ds.length < 16777216) : kApp i ρ (some (.own fr ds)) (some (.ok (.full d))) = some (.nx (ρ.set i (.own fr (ds ++ [d])))) := by
  show (if ds.length < 16777216 then some (Out.nx (ρ.set i (.own (fr && (true || scal d)) (ds ++ [d])))) else _) = _
  rw [if_pos h, Bool.true_or, Bool.and_true]
def kPut (i : Nat) (ρ : Ev) (o : Option Sl) (r q : Option Rs) : Option Out := match o with
  | some (.own fr ds) => bSz r ρ fun s => bSz q ρ fun z => match stor s with
    | some (f', d) => match dat z with
      | some (.int k) => match ixN ds.length k with
        | some j => some (.nx (ρ.set i (.own (fr && f') (ds.set j d))))
        | none => none
      | _ => none
    | none => none
  | _ => none
theorem ev_put (i : Nat) (g f : EF) (ρ : Ev) : sPut i g f ρ = kPut i ρ ρ[i]? (f ρ) (g ρ) := by
  unfold sPut kPut
  rfl
theorem kPut_val (i : Nat) (ρ : Ev) (fr : Bool) (ds : List PyData) (f' f'' : Bool) (d : PyData) (k : Int) (j : Nat) (h : ixN ds.length k = some j) : kPut i ρ (some (.own fr ds)) (some (.ok (.val f' d))) (some (.ok (.val f'' (.int k)))) = some (.nx (ρ.set i (.own (fr && (f' || scal d)) (ds.set j d)))) := by
  show (match ixN ds.length k with | some j => some (Out.nx (ρ.set i (.own (fr && (f' || scal d)) (ds.set j d)))) | none => none) = _
  rw [h]
def kF (o : Option Out) : Option FR := match o with
  | some (.nx _) => some (.ret true .none)
  | some (.rt s) => frOf s
  | some (.ex m _) => some (.exc m)
  | _ => none
theorem callF_eq (n : Nat) (F : SF) (ds : List PyData) : callF n F ds = kF (F (entE n ds)) := rfl
def unds (n : Nat) : Ev := List.replicate n .und
theorem entE_nil (n : Nat) : entE n [] = unds n := rfl
theorem unds_succ (n : Nat) : unds (n + 1) = .und :: unds n := rfl
theorem unds_zero : unds 0 = [] := rfl
theorem entE_cons (n : Nat) (d : PyData) (ds : List PyData) : entE (n + 1) (d :: ds) = entS d :: entE n ds := by
  unfold entE
  rw [List.map_cons, List.length_cons, Nat.add_sub_add_right]
  rfl
theorem entS_int (i : Int) : entS (.int i) = .val true (.int i) := rfl
theorem entS_bool (i : Bool) : entS (.bool i) = .val true (.bool i) := rfl
theorem entS_str (i : Str) : entS (.str i) = .val true (.str i) := rfl
theorem entS_none : entS .none = .val true .none := rfl
theorem entS_list (i : List PyData) : entS (.list i) = .val false (.list i) := rfl
theorem entS_tuple (i : List PyData) : entS (.tuple i) = .val false (.tuple i) := rfl
theorem kF_nx (ρ : Ev) : kF (some (.nx ρ)) = some (.ret true .none) := rfl
theorem kF_rt (s : Sl) : kF (some (.rt s)) = frOf s := rfl
theorem kF_ex (n : Str) (ρ : Ev) : kF (some (.ex n ρ)) = some (.exc n) := rfl
theorem frOf_val (fr : Bool) (d : PyData) : frOf (.val fr d) = some (.ret (fr || scal d) d) := rfl
theorem frOf_own (fr : Bool) (d : List PyData) : frOf (.own fr d) = some (.ret fr (.list d)) := rfl
theorem frOf_full (d : PyData) : frOf (.full d) = some (.ret true d) := rfl
def kVar (o : Option Sl) : Option Rs := match o with
  | some (.val fr d) => some (.ok (.val fr d))
  | some (.own fr ds) => some (.ok (.bor fr ds))
  | some (.full d) => some (.ok (.brf d))
  | _ => none
theorem ev_var (i : Nat) (ρ : Ev) : eVar i ρ = kVar ρ[i]? := by unfold eVar kVar; rfl
theorem kVar_val (fr : Bool) (d : PyData) : kVar (some (.val fr d)) = some (.ok (.val fr d)) := rfl
theorem kVar_own (fr : Bool) (d : List PyData) : kVar (some (.own fr d)) = some (.ok (.bor fr d)) := rfl
theorem kVar_full (d : PyData) : kVar (some (.full d)) = some (.ok (.brf d)) := rfl
theorem ev_c (d : PyData) (ρ : Ev) : eC d ρ = some (.ok (.val true d)) := rfl
def k2 (F : Sl → Sl → Option Sl) (a b : Option Rs) : Option Rs := PL.bz a fun x => PL.bz b fun y => okO (F x y)
theorem ev_e2 (F : Sl → Sl → Option Sl) (f g : EF) (ρ : Ev) : e2 F f g ρ = k2 F (f ρ) (g ρ) := rfl
theorem k2_ok (F : Sl → Sl → Option Sl) (x y : Sl) : k2 F (some (.ok x)) (some (.ok y)) = okO (F (frz x) (frz y)) := rfl
theorem okO_some (s : Sl) : okO (some s) = some (.ok s) := rfl
def k1 (F : Sl → Option Sl) (a : Option Rs) : Option Rs := PL.bz a fun x => okO (F x)
theorem ev_e1 (F : Sl → Option Sl) (f : EF) (ρ : Ev) : e1 F f ρ = k1 F (f ρ) := rfl
theorem k1_ok (F : Sl → Option Sl) (x : Sl) : k1 F (some (.ok x)) = okO (F (frz x)) := rfl
theorem frz_val (fr : Bool) (d : PyData) : frz (.val fr d) = .val fr d := rfl
theorem frz_own (fr : Bool) (d : List PyData) : frz (.own fr d) = .val fr (.list d) := rfl
theorem frz_full (d : PyData) : frz (.full d) = .val true d := rfl
theorem frz_bor (fr : Bool) (d : List PyData) : frz (.bor fr d) = .bor fr d := rfl
theorem frz_brf (d : PyData) : frz (.brf d) = .brf d := rfl
theorem dat_val (fr : Bool) (d : PyData) : dat (.val fr d) = some d := rfl
theorem dat_bor (fr : Bool) (d : List PyData) : dat (.bor fr d) = some (.list d) := rfl
theorem dat_brf (d : PyData) : dat (.brf d) = some d := rfl
def kC (o : Option Rs) (r : Option Ra) : Option Ra := match o with
  | some (.ok s) => match r with
    | some (.ok ss) => some (.ok (frz s :: ss))
    | r => r
  | some (.ex n) => some (.ex n)
  | none => none
theorem ev_evs0 (ρ : Ev) : evs [] ρ = some (.ok []) := rfl
theorem ev_evs (f : EF) (fs : List EF) (ρ : Ev) : evs (f :: fs) ρ = kC (f ρ) (evs fs ρ) := by
  rw [evs.eq_def]; rfl
theorem kC_ok (s : Sl) (ss : List Sl) : kC (some (.ok s)) (some (.ok ss)) = some (.ok (frz s :: ss)) := rfl
def kCB (F : List Sl → Option Sl) (r : Option Ra) : Option Rs := PL.bzs r fun ss => okO (F ss)
theorem ev_cb (F : List Sl → Option Sl) (fs : List EF) (ρ : Ev) : eCB F fs ρ = kCB F (evs fs ρ) := rfl
theorem kCB_ok (F : List Sl → Option Sl) (ss : List Sl) : kCB F (some (.ok ss)) = okO (F ss) := rfl
def kCall (F : FN) (r : Option Ra) : Option Rs := PL.bzs r fun ss => cRes F ss
theorem ev_call (F : FN) (fs : List EF) (ρ : Ev) : eCall F fs ρ = kCall F (evs fs ρ) := rfl
theorem kCall_ok (F : FN) (ss : List Sl) : kCall F (some (.ok ss)) = cRes F ss := rfl
def kRes (r : Option FR) (v : Bool) : Option Rs := match r with
  | some (.ret true d) => some (.ok (if scal d = true then .val true d else .full d))
  | some (.ret false d) => if v = true then some (.ok (.val false d)) else none
  | some (.exc n) => some (.ex n)
  | none => none
def kRs (F : FN) (o : Option (List PyData)) (v : Bool) : Option Rs := match o with | some ds => kRes (F ds) v | none => none
theorem ev_cres (F : FN) (ss : List Sl) : cRes F ss = kRs F (dats ss) (ss.all isVal) := by
  unfold cRes kRs kRes
  rfl
theorem kRs_some (F : FN) (ds : List PyData) (v : Bool) : kRs F (some ds) v = kRes (F ds) v := rfl
theorem kRes_int (i : Int) (v : Bool) : kRes (some (.ret true (.int i))) v = some (.ok (.val true (.int i))) := rfl
theorem kRes_bool (i : Bool) (v : Bool) : kRes (some (.ret true (.bool i))) v = some (.ok (.val true (.bool i))) := rfl
theorem kRes_str (i : Str) (v : Bool) : kRes (some (.ret true (.str i))) v = some (.ok (.val true (.str i))) := rfl
theorem kRes_none (v : Bool) : kRes (some (.ret true .none)) v = some (.ok (.val true .none)) := rfl
theorem kRes_list (ds : List PyData) (v : Bool) : kRes (some (.ret true (.list ds))) v = some (.ok (.full (.list ds))) := rfl
theorem kRes_tuple (ds : List PyData) (v : Bool) : kRes (some (.ret true (.tuple ds))) v = some (.ok (.full (.tuple ds))) := rfl
theorem kRes_false (d : PyData) : kRes (some (.ret false d)) true = some (.ok (.val false d)) := rfl
theorem kRes_exc (n : Str) (v : Bool) : kRes (some (.exc n)) v = some (.ex n) := rfl
def kD (o : Option PyData) (r : Option (List PyData)) : Option (List PyData) := match o with
  | some d => match r with
    | some ds => some (d :: ds)
    | none => none
  | none => none
theorem dats_nil : dats [] = some [] := rfl
theorem dats_cons (s : Sl) (ss : List Sl) : dats (s :: ss) = kD (dat s) (dats ss) := by
  rw [dats.eq_def]; rfl
theorem kD_some (d : PyData) (ds : List PyData) : kD (some d) (some ds) = some (d :: ds) := rfl
theorem isVal_val (fr : Bool) (d : PyData) : isVal (.val fr d) = true := rfl
theorem isVal_bor (fr : Bool) (d : List PyData) : isVal (.bor fr d) = false := rfl
theorem isVal_brf (d : PyData) : isVal (.brf d) = false := rfl
def kIsa (g : PyData → Bool) (o : Option Rs) : Option Rs := PL.bz o fun x => match dat x with
  | some d => some (.ok (.val true (.bool (g d))))
  | none => none
theorem ev_isa (g : PyData → Bool) (f : EF) (ρ : Ev) : eIsa g f ρ = kIsa g (f ρ) := rfl
theorem kIsa_val (g : PyData → Bool) (fr : Bool) (d : PyData) : kIsa g (some (.ok (.val fr d))) = some (.ok (.val true (.bool (g d)))) := rfl
theorem kIsa_own (g : PyData → Bool) (fr : Bool) (d : List PyData) : kIsa g (some (.ok (.own fr d))) = some (.ok (.val true (.bool (g (.list d))))) := rfl
theorem kIsa_bor (g : PyData → Bool) (fr : Bool) (d : List PyData) : kIsa g (some (.ok (.bor fr d))) = some (.ok (.val true (.bool (g (.list d))))) := rfl
theorem kIsa_full (g : PyData → Bool) (d : PyData) : kIsa g (some (.ok (.full d))) = some (.ok (.val true (.bool (g d)))) := rfl
theorem kIsa_brf (g : PyData → Bool) (d : PyData) : kIsa g (some (.ok (.brf d))) = some (.ok (.val true (.bool (g d)))) := rfl
def kAnd (o : Option Rs) (g : EF) (ρ : Ev) : Option Rs := PL.bz o fun x => match dat x with
  | some (.bool true) => g ρ
  | some (.bool false) => some (.ok (.val true (.bool false)))
  | _ => none
theorem ev_and (f g : EF) (ρ : Ev) : eAnd f g ρ = kAnd (f ρ) g ρ := rfl
def kAnd2 (b : Bool) (r : Option Rs) : Option Rs := if b then r else some (.ok (.val true (.bool false)))
theorem kAnd_val (fr b : Bool) (g : EF) (ρ : Ev) : kAnd (some (.ok (.val fr (.bool b)))) g ρ = kAnd2 b (g ρ) := by cases b <;> rfl
theorem kAnd2_true (r : Option Rs) : kAnd2 true r = r := rfl
theorem kAnd2_false (r : Option Rs) : kAnd2 false r = some (.ok (.val true (.bool false))) := rfl
theorem kAnd2_val (b b' : Bool) : kAnd2 b (some (.ok (.val true (.bool b')))) = some (.ok (.val true (.bool (b && b')))) := by cases b <;> rfl
def kOr (o : Option Rs) (g : EF) (ρ : Ev) : Option Rs := PL.bz o fun x => match dat x with
  | some (.bool false) => g ρ
  | some (.bool true) => some (.ok (.val true (.bool true)))
  | _ => none
theorem ev_or (f g : EF) (ρ : Ev) : eOr f g ρ = kOr (f ρ) g ρ := rfl
def kOr2 (b : Bool) (r : Option Rs) : Option Rs := if b then some (.ok (.val true (.bool true))) else r
theorem kOr_val (fr b : Bool) (g : EF) (ρ : Ev) : kOr (some (.ok (.val fr (.bool b)))) g ρ = kOr2 b (g ρ) := by cases b <;> rfl
theorem kOr2_true (r : Option Rs) : kOr2 true r = some (.ok (.val true (.bool true))) := rfl
theorem kOr2_false (r : Option Rs) : kOr2 false r = r := rfl
theorem kOr2_val (b b' : Bool) : kOr2 b (some (.ok (.val true (.bool b')))) = some (.ok (.val true (.bool (b || b')))) := by cases b <;> rfl
def kNot (o : Option Rs) : Option Rs := PL.bz o fun x => match dat x with
  | some (.bool b) => some (.ok (.val true (.bool (!b))))
  | _ => none
theorem ev_not (f : EF) (ρ : Ev) : eNot f ρ = kNot (f ρ) := rfl
theorem kNot_val (fr b : Bool) : kNot (some (.ok (.val fr (.bool b)))) = some (.ok (.val true (.bool (!b)))) := rfl
def kIfE (o : Option Rb) (f g : EF) (ρ : Ev) : Option Rs := match o with
  | some (.ok true) => f ρ
  | some (.ok false) => g ρ
  | some (.ex n) => some (.ex n)
  | none => none
theorem ev_ife (t : BF) (f g : EF) (ρ : Ev) : eIf t f g ρ = kIfE (t ρ) f g ρ := rfl
theorem kIfE_true (f g : EF) (ρ : Ev) : kIfE (some (.ok true)) f g ρ = f ρ := rfl
theorem kIfE_false (f g : EF) (ρ : Ev) : kIfE (some (.ok false)) f g ρ = g ρ := rfl
def kB (o : Option Rs) : Option Rb := match o with
  | some (.ok (.val _ (.bool b))) => some (.ok b)
  | some (.ex n) => some (.ex n)
  | _ => none
theorem ev_bof (f : EF) (ρ : Ev) : bOf f ρ = kB (f ρ) := by unfold bOf kB; rfl
theorem kB_val (fr b : Bool) : kB (some (.ok (.val fr (.bool b)))) = some (.ok b) := rfl
def kTo (o : Option Rs) : Option Rb := match o with
  | some (.ok s) => match dat (frz s) with
    | some d => okB (truth d)
    | none => none
  | some (.ex n) => some (.ex n)
  | none => none
theorem ev_tof (f : EF) (ρ : Ev) : tOf f ρ = kTo (f ρ) := by unfold tOf kTo; rfl
theorem kTo_val (fr : Bool) (d : PyData) : kTo (some (.ok (.val fr d))) = okB (truth d) := rfl
theorem kTo_own (fr : Bool) (d : List PyData) : kTo (some (.ok (.own fr d))) = okB (truth (.list d)) := rfl
theorem kTo_bor (fr : Bool) (d : List PyData) : kTo (some (.ok (.bor fr d))) = okB (truth (.list d)) := rfl
theorem kTo_full (d : PyData) : kTo (some (.ok (.full d))) = okB (truth d) := rfl
theorem kTo_brf (d : PyData) : kTo (some (.ok (.brf d))) = okB (truth d) := rfl
theorem okB_some (b : Bool) : okB (some b) = some (.ok b) := rfl
theorem truth_bool (b : Bool) : truth (.bool b) = some b := rfl
theorem truth_int (b : Int) : truth (.int b) = some (b != 0) := rfl
theorem truth_none : truth .none = some false := rfl
theorem truth_list (b : List PyData) : truth (.list b) = some (!b.isEmpty) := rfl
theorem truth_tuple (b : List PyData) : truth (.tuple b) = some (!b.isEmpty) := rfl
def kNotB (o : Option Rb) : Option Rb := match o with | some (.ok b) => some (.ok (!b)) | r => r
theorem ev_bnot (f : BF) (ρ : Ev) : bNot f ρ = kNotB (f ρ) := rfl
theorem kNotB_ok (b : Bool) : kNotB (some (.ok b)) = some (.ok (!b)) := rfl
def kAndB (o : Option Rb) (g : BF) (ρ : Ev) : Option Rb := match o with | some (.ok true) => g ρ | r => r
theorem ev_band (f g : BF) (ρ : Ev) : bAnd f g ρ = kAndB (f ρ) g ρ := rfl
def kAndB2 (b : Bool) (r : Option Rb) : Option Rb := if b then r else some (.ok false)
theorem kAndB_ok (b : Bool) (g : BF) (ρ : Ev) : kAndB (some (.ok b)) g ρ = kAndB2 b (g ρ) := by cases b <;> rfl
theorem kAndB2_true (r : Option Rb) : kAndB2 true r = r := rfl
theorem kAndB2_false (r : Option Rb) : kAndB2 false r = some (.ok false) := rfl
theorem kAndB2_ok (b b' : Bool) : kAndB2 b (some (.ok b')) = some (.ok (b && b')) := by cases b <;> rfl
def kOrB (o : Option Rb) (g : BF) (ρ : Ev) : Option Rb := match o with | some (.ok false) => g ρ | r => r
theorem ev_bor (f g : BF) (ρ : Ev) : bOr f g ρ = kOrB (f ρ) g ρ := rfl
def kOrB2 (b : Bool) (r : Option Rb) : Option Rb := if b then some (.ok true) else r
theorem kOrB_ok (b : Bool) (g : BF) (ρ : Ev) : kOrB (some (.ok b)) g ρ = kOrB2 b (g ρ) := by cases b <;> rfl
theorem kOrB2_true (r : Option Rb) : kOrB2 true r = some (.ok true) := rfl
theorem kOrB2_false (r : Option Rb) : kOrB2 false r = r := rfl
theorem kOrB2_ok (b b' : Bool) : kOrB2 b (some (.ok b')) = some (.ok (b || b')) := by cases b <;> rfl
def kCh (G G' : PyData → PyData → Option PyData) (a b : Option Rs) (k : EF) (ρ : Ev) : Option Rs := PL.bz a fun x => PL.bz b fun y => match fD G x y with
  | some (.val _ (.bool true)) => PL.bz (k ρ) fun z => okO (fD G' y z)
  | some (.val _ (.bool false)) => some (.ok (.val true (.bool false)))
  | _ => none
theorem ev_chain (G G' : PyData → PyData → Option PyData) (f g k : EF) (ρ : Ev) : eChain G G' f g k ρ = kCh G G' (f ρ) (g ρ) k ρ := by
  unfold eChain kCh; rfl
def kCh2 (o : Option Sl) (G' : PyData → PyData → Option PyData) (y : Sl) (z : Option Rs) : Option Rs := match o with
  | some (.val _ (.bool true)) => PL.bz z fun z => okO (fD G' y z)
  | some (.val _ (.bool false)) => some (.ok (.val true (.bool false)))
  | _ => none
theorem kCh_ok (G G' : PyData → PyData → Option PyData) (x y : Sl) (k : EF) (ρ : Ev) : kCh G G' (some (.ok x)) (some (.ok y)) k ρ = kCh2 (fD G (frz x) (frz y)) G' (frz y) (k ρ) := by
  unfold kCh kCh2; rfl
theorem kCh2_false (fr : Bool) (G' : PyData → PyData → Option PyData) (y : Sl) (z : Option Rs) : kCh2 (some (.val fr (.bool false))) G' y z = some (.ok (.val true (.bool false))) := rfl
theorem kCh2_true (fr : Bool) (G' : PyData → PyData → Option PyData) (y z : Sl) : kCh2 (some (.val fr (.bool true))) G' y (some (.ok z)) = okO (fD G' y (frz z)) := rfl
def kS (o : Option PyData) : Option Sl := match o with | some r => if scal r = true then some (.val true r) else none | none => none
def kD2 (g : PyData → PyData → Option PyData) (a b : Option PyData) : Option Sl := match a with
  | some d => match b with
    | some e => kS (g d e)
    | none => none
  | none => none
theorem ev_fD (g : PyData → PyData → Option PyData) (x y : Sl) : fD g x y = kD2 g (dat x) (dat y) := by
  unfold fD kD2 kS; rfl
theorem kD2_some (g : PyData → PyData → Option PyData) (d e : PyData) : kD2 g (some d) (some e) = kS (g d e) := rfl
theorem kS_int (i : Int) : kS (some (.int i)) = some (.val true (.int i)) := rfl
theorem kS_bool (i : Bool) : kS (some (.bool i)) = some (.val true (.bool i)) := rfl
theorem kS_str (i : Str) : kS (some (.str i)) = some (.val true (.str i)) := rfl
theorem kS_none : kS (some .none) = some (.val true .none) := rfl
theorem ev_sub (i j : Int) : gSub (.int i) (.int j) = some (.int (i - j)) := rfl
theorem ev_addI (a b : Bool) (i j : Int) : fAdd (.val a (.int i)) (.val b (.int j)) = some (.val true (.int (i + j))) := rfl
theorem ev_iadd (i j : Int) : gI cT (· + ·) (.int i) (.int j) = some (.int (i + j)) := rfl
theorem ev_div (i j : Int) (h0 : 0 < j) (h : j < 1073741824) : gDiv (.int i) (.int j) = some (.int (i / j)) := by
  show (if cd (0 < j ∧ j < 1073741824) = true then _ else _) = _
  rw [if_pos (cd_true ⟨h0, h⟩)]
theorem ev_mod (i j : Int) (h0 : 0 < j) : gMod (.int i) (.int j) = some (.int (i % j)) := by
  show (if cd (0 < j) = true then _ else _) = _
  rw [if_pos (cd_true h0)]
theorem ev_pow (i j : Int) (h : 0 ≤ j) (h' : j ≤ 1000000) (h2 : i.natAbs < 18446744073709551616) : gPow (.int i) (.int j) = some (.int (i ^ j.toNat)) := by
  show (if cd (0 ≤ j ∧ j ≤ 1000000 ∧ i.natAbs < 18446744073709551616) = true then _ else _) = _
  rw [if_pos (cd_true ⟨h, h', h2⟩)]
theorem ev_mulI (a b : Bool) (i j : Int) (h : cMul i j = true) : fMul (.val a (.int i)) (.val b (.int j)) = some (.val true (.int (i * j))) := by
  have e : fMul (.val a (.int i)) (.val b (.int j)) = kS (gMulS (.int i) (.int j)) := rfl
  have e2 : gMulS (.int i) (.int j) = if cMul i j = true then some (.int (i * j)) else none := rfl
  rw [e, e2, if_pos h]; rfl
theorem cMul2 {i j : Int} (h1 : -(18446744073709551616) < j) (h2 : j < 18446744073709551616) : cMul i j = true := by
  have := cd_true (p := -(18446744073709551616) < j ∧ j < 18446744073709551616) ⟨h1, h2⟩
  unfold cMul; rw [this, Bool.or_true]
theorem ev_neg (a : Bool) (i : Int) : fNeg (.val a (.int i)) = some (.val true (.int (-i))) := rfl
theorem ev_eqI (i j : Int) : gEq (.int i) (.int j) = some (.bool (cd (i = j))) := rfl
theorem ev_neI (i j : Int) : gNe (.int i) (.int j) = some (.bool (!cd (i = j))) := rfl
theorem ev_ltI (i j : Int) : gLt (.int i) (.int j) = some (.bool (cd (i < j))) := rfl
theorem ev_leI (i j : Int) : gLe (.int i) (.int j) = some (.bool (cd (i ≤ j))) := rfl
theorem ev_gtI (i j : Int) : gGt (.int i) (.int j) = some (.bool (cd (j < i))) := rfl
theorem ev_geI (i j : Int) : gGe (.int i) (.int j) = some (.bool (cd (j ≤ i))) := rfl
theorem fD1_1 (g : PyData → Option PyData) (s : Sl) : fD1 g [s] = match dat s with | some d => kS (g d) | none => none := by
  unfold fD1 kS; rfl
def kD1 (g : PyData → Option PyData) (o : Option PyData) : Option Sl := match o with | some d => kS (g d) | none => none
theorem ev_fD1 (g : PyData → Option PyData) (s : Sl) : fD1 g [s] = kD1 g (dat s) := fD1_1 g s
theorem kD1_some (g : PyData → Option PyData) (d : PyData) : kD1 g (some d) = kS (g d) := rfl
theorem ev_int (i : Int) : gInt (.int i) = some (.int i) := rfl
theorem ev_intb (i : Bool) : gInt (.bool i) = some (.int (if i then 1 else 0)) := rfl
theorem ev_abs (i : Int) : gAbs (.int i) = some (.int (if i < 0 then -i else i)) := rfl
theorem ev_lenL (ds : List PyData) : gLen (.list ds) = some (.int ds.length) := rfl
theorem ev_lenT (ds : List PyData) : gLen (.tuple ds) = some (.int ds.length) := rfl
theorem ev_fI2 (h : Int → Int → Int) (a b : Bool) (i j : Int) : fI2 h [.val a (.int i), .val b (.int j)] = some (.val true (.int (h i j))) := rfl
theorem ev_catT (a b : Bool) (d e : List PyData) (hd : d.isEmpty = false) (he : e.isEmpty = false) (h : d.length + e.length ≤ 16777216) : fAdd (.val a (.tuple d)) (.val b (.tuple e)) = some (.val (a && b) (.tuple (d ++ e))) := by
  show (match (if (!d.isEmpty && !e.isEmpty && decide (d.length + e.length ≤ 16777216)) = true then some (a, b, d, e) else none) with | some (f1, f2, d1, d2) => some (Sl.val (f1 && f2) (PyData.tuple (d1 ++ d2))) | none => _) = _
  rw [hd, he, decide_eq_true h]; rfl
theorem ev_catVV (a b : Bool) (d e : List PyData) (h : d.length + e.length ≤ 16777216) : fAdd (.val a (.list d)) (.val b (.list e)) = some (.own ((a || d.all PL.scal) && (b || e.all PL.scal)) (d ++ e)) := by
  show (if _ then _ else _) = _
  rw [if_pos h]
theorem ev_repV (a b : Bool) (d : List PyData) (k : Int) (h : -(9223372036854775808) ≤ k) (h1 : k < 9223372036854775808) (h2 : d.length * k.toNat ≤ 16777216) : fMul (.val a (.list d)) (.val b (.int k)) = some (.own (a || d.all PL.scal) (List.replicate k.toNat d).flatten) := by
  show (if cd _ = true then _ else _) = _
  rw [if_pos (cd_true ⟨h, h1, h2⟩)]
def kLst (r : Option Ra) : Option Rs := PL.bzs r fun ss => match PL.stors ss with
  | some (fr, ds) => if ds.length ≤ 16777216 then some (.ok (.own fr ds)) else none
  | none => none
theorem ev_list (fs : List EF) (ρ : Ev) : eList fs ρ = kLst (evs fs ρ) := rfl
def kMk (o : Option (Bool × List PyData)) : Option Rs := match o with
  | some (fr, ds) => if ds.length ≤ 16777216 then some (.ok (.own fr ds)) else none
  | none => none
theorem kLst_ok (ss : List Sl) : kLst (some (.ok ss)) = kMk (PL.stors ss) := rfl
def kTup (r : Option Ra) : Option Rs := PL.bzs r fun ss => match PL.stors ss with
  | some (fr, ds) => if ds.length ≤ 16777216 then some (.ok (.val fr (.tuple ds))) else none
  | none => none
theorem ev_tup (fs : List EF) (ρ : Ev) : eTup fs ρ = kTup (evs fs ρ) := rfl
def kMkT (o : Option (Bool × List PyData)) : Option Rs := match o with
  | some (fr, ds) => if ds.length ≤ 16777216 then some (.ok (.val fr (.tuple ds))) else none
  | none => none
theorem kTup_ok (ss : List Sl) : kTup (some (.ok ss)) = kMkT (PL.stors ss) := rfl
theorem kMk_some (fr : Bool) (ds : List PyData) (h : ds.length ≤ 16777216) : kMk (some (fr, ds)) = some (.ok (.own fr ds)) := by
  show (if _ then _ else _) = _
  rw [if_pos h]
theorem kMkT_some (fr : Bool) (ds : List PyData) (h : ds.length ≤ 16777216) : kMkT (some (fr, ds)) = some (.ok (.val fr (.tuple ds))) := by
  show (if _ then _ else _) = _
  rw [if_pos h]
def kSt (o : Option (Bool × PyData)) (r : Option (Bool × List PyData)) : Option (Bool × List PyData) := match o with
  | some (f, d) => match r with
    | some (g, ds) => some (f && g, d :: ds)
    | none => none
  | none => none
theorem stors_nil : PL.stors [] = some (true, []) := rfl
theorem stors_cons (s : Sl) (ss : List Sl) : PL.stors (s :: ss) = kSt (stor s) (PL.stors ss) := by
  rw [PL.stors.eq_def]; rfl
theorem kSt_some (f g : Bool) (d : PyData) (ds : List PyData) : kSt (some (f, d)) (some (g, ds)) = some (f && g, d :: ds) := rfl
theorem stor_val (fr : Bool) (d : PyData) : stor (.val fr d) = some (fr || scal d, d) := rfl
theorem ev_ixL (a b : Bool) (ds : List PyData) (i : Int) : fIx (.val a (.list ds)) (.val b (.int i)) = (atI ds i).map (mkv a) := rfl
theorem ev_ixT (a b : Bool) (ds : List PyData) (i : Int) : fIx (.val a (.tuple ds)) (.val b (.int i)) = (atI ds i).map (mkv a) := rfl
theorem ev_ixB (a b : Bool) (ds : List PyData) (i : Int) : fIx (.bor a ds) (.val b (.int i)) = (atI ds i).map (mkv a) := rfl
theorem atI_cast {α : Type} (xs : List α) (n : Nat) : atI xs (n : Int) = xs[n]? := by
  unfold atI ixN
  rw [if_pos (by omega)]
  by_cases h : (n : Int) < xs.length
  · rw [if_pos h, Int.toNat_natCast]; rfl
  · rw [if_neg h, List.getElem?_eq_none (by omega)]; rfl
theorem atI_0 {α : Type} (xs : List α) : atI xs 0 = xs[0]? := atI_cast xs 0
theorem atI_1 {α : Type} (xs : List α) : atI xs 1 = xs[1]? := atI_cast xs 1
theorem atI_2 {α : Type} (xs : List α) : atI xs 2 = xs[2]? := atI_cast xs 2
theorem atI_3 {α : Type} (xs : List α) : atI xs 3 = xs[3]? := atI_cast xs 3
theorem atI_4 {α : Type} (xs : List α) : atI xs 4 = xs[4]? := atI_cast xs 4
theorem atI_5 {α : Type} (xs : List α) : atI xs 5 = xs[5]? := atI_cast xs 5
theorem atI_6 {α : Type} (xs : List α) : atI xs 6 = xs[6]? := atI_cast xs 6
theorem atI_7 {α : Type} (xs : List α) : atI xs 7 = xs[7]? := atI_cast xs 7
def kSl (a : Option Rs) (lo hi : Option Rp) : Option Rs := PL.bz a fun x => PL.bp lo fun l => PL.bp hi fun h => slF x l h
theorem kSl_valT (fr : Bool) (ds : List PyData) (l h : Option Int) : kSl (some (.ok (.val fr (.tuple ds)))) (some (.ok l)) (some (.ok h)) = some (.ok (.val fr (.tuple (cutD ds l h)))) := rfl
theorem kSl_brfT (ds : List PyData) (l h : Option Int) (h1 : (cutD ds l h).all PL.scal = true) (h2 : (cutD ds l h).length < ds.length) : kSl (some (.ok (.brf (.tuple ds)))) (some (.ok l)) (some (.ok h)) = some (.ok (.val true (.tuple (cutD ds l h)))) := by
  show (if ((cutD ds l h).all PL.scal && decide ((cutD ds l h).length < ds.length)) = true then _ else _) = _
  rw [h1, decide_eq_true h2]; rfl
theorem ev_slice (f : EF) (lo hi : PF) (ρ : Ev) : eSl f lo hi ρ = kSl (f ρ) (lo ρ) (hi ρ) := rfl
theorem kSl_val (fr : Bool) (ds : List PyData) (l h : Option Int) : kSl (some (.ok (.val fr (.list ds)))) (some (.ok l)) (some (.ok h)) = some (.ok (.own (fr || ds.all PL.scal) (cutD ds l h))) := rfl
theorem kSl_own (fr : Bool) (ds : List PyData) (l h : Option Int) : kSl (some (.ok (.own fr ds))) (some (.ok l)) (some (.ok h)) = some (.ok (.own (fr || ds.all PL.scal) (cutD ds l h))) := rfl
theorem kSl_bor (fr : Bool) (ds : List PyData) (l h : Option Int) : kSl (some (.ok (.bor fr ds))) (some (.ok l)) (some (.ok h)) = some (.ok (.own (fr || ds.all PL.scal) (cutD ds l h))) := rfl
theorem kSl_full (ds : List PyData) (l h : Option Int) : kSl (some (.ok (.full (.list ds)))) (some (.ok l)) (some (.ok h)) = some (.ok (.own true (cutD ds l h))) := rfl
theorem ev_pN (ρ : Ev) : pN ρ = some (.ok none) := rfl
def kP (o : Option Rs) : Option Rp := match o with
  | some (.ok s) => match dat (frz s) with
    | some (.int i) => some (.ok (some i))
    | _ => none
  | some (.ex n) => some (.ex n)
  | none => none
theorem ev_pS (f : EF) (ρ : Ev) : pS f ρ = kP (f ρ) := by unfold pS kP; rfl
theorem kP_int (fr : Bool) (i : Int) : kP (some (.ok (.val fr (.int i)))) = some (.ok (some i)) := rfl
theorem ev_rev (fr : Bool) (ds : List PyData) : fRev (.val fr (.list ds)) = some (.own (fr || ds.all PL.scal) ds.reverse) := rfl
theorem ev_ls (fr : Bool) (ds : List PyData) : fLs [.val fr (.list ds)] = some (.own (fr || ds.all PL.scal) ds) := rfl
theorem ev_lsT (fr : Bool) (ds : List PyData) : fLs [.val fr (.tuple ds)] = some (.own fr ds) := rfl
theorem ev_tl (fr : Bool) (ds : List PyData) : fTl [.val fr (.list ds)] = some (.val (fr || ds.all PL.scal) (.tuple ds)) := rfl
theorem all_scal (xs : List Int) : (xs.map PyData.int).all PL.scal = true := by
  rw [List.all_map, List.all_eq_true]; intro x _; rfl
def kSo (fr : Bool) (o : Option (List PyData)) : Option Sl := o.map fun ds' => .own fr ds'
theorem ev_sorted (fr : Bool) (ds : List PyData) : fSorted [.val fr (.list ds)] = kSo (fr || ds.all PL.scal) (gSorted ds) := rfl
theorem kSo_some (fr : Bool) (ds : List PyData) : kSo fr (some ds) = some (.own fr ds) := rfl
def kIL (o : Option Rs) : Option Ri := match o with
  | some (.ok s) => match frz s with
    | .val fr (.list ds) => some (.ok (ds.map (mkv fr)))
    | _ => none
  | some (.ex n) => some (.ex n)
  | none => none
theorem ev_iL (f : EF) (ρ : Ev) : iL f ρ = kIL (f ρ) := by unfold iL kIL; rfl
theorem kIL_val (fr : Bool) (ds : List PyData) : kIL (some (.ok (.val fr (.list ds)))) = some (.ok (ds.map (mkv fr))) := rfl
theorem kIL_own (fr : Bool) (ds : List PyData) : kIL (some (.ok (.own fr ds))) = some (.ok (ds.map (mkv fr))) := rfl
theorem kIL_full (ds : List PyData) : kIL (some (.ok (.full (.list ds)))) = some (.ok (ds.map (mkv true))) := rfl
noncomputable def kR (r : Option Ra) : Option Ri := match r with
  | some (.ok ss) => match ss.map dat with
    | [some (.int j)] => if small62 j = true then some (.ok (rngI 0 j)) else none
    | [some (.int i), some (.int j)] => if small62 i = true ∧ small62 j = true then some (.ok (rngI i j)) else none
    | _ => none
  | some (.ex n) => some (.ex n)
  | none => none
theorem ev_iR (fs : List EF) (ρ : Ev) : iR fs ρ = kR (evs fs ρ) := by unfold iR kR; rfl
theorem kR_1 (a : Bool) (j : Int) (h : small62 j = true) : kR (some (.ok [.val a (.int j)])) = some (.ok (rngI 0 j)) := by
  show (if _ then _ else _) = _
  rw [if_pos h]
theorem kR_2 (a b : Bool) (i j : Int) (h : small62 i = true) (h' : small62 j = true) : kR (some (.ok [.val a (.int i), .val b (.int j)])) = some (.ok (rngI i j)) := by
  show (if _ then _ else _) = _
  rw [if_pos ⟨h, h'⟩]
theorem small62_ok {i : Int} (h : -4611686018427387904 ≤ i) (h' : i < 4611686018427387904) : small62 i = true := cd_true ⟨h, h'⟩
def mkI (i : Int) : Sl := .val true (.int i)
theorem map_mkv_int (fr : Bool) (l : List Int) : (l.map PyData.int).map (mkv fr) = l.map mkI := by
  rw [List.map_map]; exact List.map_congr_left fun a _ => mkv_int fr a
theorem mkI_eq (i : Int) : mkI i = .val true (.int i) := rfl
def mkN (lo : Int) (i : Nat) : Sl := .val true (.int (lo + (i : Int)))
theorem rngI_eq (lo hi : Int) : rngI lo hi = (List.range (hi - lo).toNat).map (mkN lo) := rfl
theorem mkN_eq (lo : Int) (i : Nat) : mkN lo i = .val true (.int (lo + (i : Int))) := rfl
noncomputable def kR3 (r : Option Ra) : Option Ri := match r with
  | some (.ok ss) => match ss.map dat with
    | [some (.int i), some (.int j), some (.int c)] => if cd (c ≠ 0 ∧ c.natAbs < 1073741824 ∧ Builtin.Range.small i j c = true) = true then some (.ok (rngC i c (rN i j c))) else none
    | _ => none
  | some (.ex n) => some (.ex n)
  | none => none
theorem ev_iR3 (fs : List EF) (ρ : Ev) : iR3 fs ρ = kR3 (evs fs ρ) := by unfold iR3 kR3; rfl
theorem kR3_ok (a b b' : Bool) (i j c : Int) (h : c ≠ 0 ∧ c.natAbs < 1073741824 ∧ Builtin.Range.small i j c = true) : kR3 (some (.ok [.val a (.int i), .val b (.int j), .val b' (.int c)])) = some (.ok (rngC i c (rN i j c))) := by
  show (if _ then _ else _) = _
  rw [if_pos (cd_true h)]
def mkC (lo c : Int) (i : Nat) : Sl := .val true (.int (lo + (i : Int) * c))
theorem rngC_eq (lo c : Int) (n : Nat) : rngC lo c n = (List.range n).map (mkC lo c) := rfl
theorem mkC_eq (lo c : Int) (i : Nat) : mkC lo c i = .val true (.int (lo + (i : Int) * c)) := rfl
def kM (mk : Sl → Option (List Sl)) (o : Option Rs) : Option Ri := match o with
  | some (.ok s) => match mk (frz s) with
    | some its => some (.ok its)
    | none => none
  | some (.ex n) => some (.ex n)
  | none => none
theorem ev_iM (mk : Sl → Option (List Sl)) (f : EF) (ρ : Ev) : iM mk f ρ = kM mk (f ρ) := by unfold iM kM; rfl
def kM2 (o : Option (List Sl)) : Option Ri := match o with | some its => some (.ok its) | none => none
theorem kM_ok (mk : Sl → Option (List Sl)) (s : Sl) : kM mk (some (.ok s)) = kM2 (mk (frz s)) := by unfold kM kM2; rfl
theorem kM2_some (its : List Sl) : kM2 (some its) = some (.ok its) := rfl
theorem mkEn_val (fr : Bool) (ds : List PyData) : mkEn (.val fr (.list ds)) = some (enI fr 0 ds) := rfl
theorem mkTp_val (fr : Bool) (ds : List PyData) : mkTp (.val fr (.tuple ds)) = some (ds.map (mkv fr)) := rfl
def kZp (o : Option Rs) (g : EF) (ρ : Ev) : Option Ri := match o with
  | some (.ok s) => iM (mkZp (frz s)) g ρ
  | some (.ex n) => some (.ex n)
  | none => none
theorem ev_iZp (f g : EF) (ρ : Ev) : iZp f g ρ = kZp (f ρ) g ρ := by unfold iZp kZp; rfl
theorem kZp_ok (s : Sl) (g : EF) (ρ : Ev) : kZp (some (.ok s)) g ρ = iM (mkZp (frz s)) g ρ := rfl
theorem mkZp_val (a b : Bool) (ds es : List PyData) : mkZp (.val a (.list ds)) (.val b (.list es)) = some (zpI (a && b) ds es) := rfl
def kLc (o : Option Ri) (own : List Nat) (t : GF) (tt : BF) (elt : EF) (ρ : Ev) : Option Rs := match o with
  | some (.ok its) => match lcL t tt elt (wipeE ρ own) its with
    | some (fr, ds) => if ds.length ≤ 16777216 then some (.ok (.own fr ds)) else none
    | none => none
  | some (.ex n) => some (.ex n)
  | none => none
theorem ev_lc (g : IF) (own : List Nat) (t : GF) (tt : BF) (elt : EF) (ρ : Ev) : eLc g own t tt elt ρ = kLc (g ρ) own t tt elt ρ := by unfold eLc kLc; rfl
def kLcM (o : Option (Bool × List PyData)) : Option Rs := match o with
  | some (fr, ds) => if ds.length ≤ 16777216 then some (.ok (.own fr ds)) else none
  | none => none
theorem kLc_ok (its : List Sl) (own : List Nat) (t : GF) (tt : BF) (elt : EF) (ρ : Ev) : kLc (some (.ok its)) own t tt elt ρ = kLcM (lcL t tt elt (wipeE ρ own) its) := rfl
theorem kLcM_some (fr : Bool) (ds : List PyData) (h : ds.length ≤ 16777216) : kLcM (some (fr, ds)) = some (.ok (.own fr ds)) := by
  show (if _ then _ else _) = _
  rw [if_pos h]
theorem wipeE_nil (ρ : Ev) : wipeE ρ [] = ρ := rfl
theorem wipeE_cons (ρ : Ev) (i : Nat) (r : List Nat) : wipeE ρ (i :: r) = (wipeE ρ r).set i .und := rfl
theorem ev_byes (ρ : Ev) : bYes ρ = some (.ok true) := rfl
def kE (o : Option Rs) : Option (Bool × PyData) := match o with | some (.ok x) => stor (frz x) | _ => none
theorem kE_val (fr : Bool) (d : PyData) : kE (some (.ok (.val fr d))) = some (fr || scal d, d) := rfl
theorem kE_own (fr : Bool) (d : List PyData) : kE (some (.ok (.own fr d))) = some (fr, .list d) := by cases fr <;> rfl
theorem kE_full (d : PyData) : kE (some (.ok (.full d))) = some (true, d) := rfl
def kEl (o : Option Ev) (elt : EF) : Option (Bool × PyData) := match o with | some ρ1 => kE (elt ρ1) | none => none
theorem kEl_some (ρ : Ev) (elt : EF) : kEl (some ρ) elt = kE (elt ρ) := rfl
def kTl (o : Option Ev) (tt : BF) : Option Rb := match o with | some ρ1 => tt ρ1 | none => none
theorem kTl_some (ρ : Ev) (tt : BF) : kTl (some ρ) tt = tt ρ := rfl
theorem kEl_ok {o : Option Ev} {elt : EF} {f : Bool} {d : PyData} (h : kEl o elt = some (f, d)) : ∃ ρ1 x, o = some ρ1 ∧ elt ρ1 = some (.ok x) ∧ stor (frz x) = some (f, d) := by
  cases o with
  | none => cases h
  | some ρ1 =>
    have h' : kE (elt ρ1) = some (f, d) := h
    cases he : elt ρ1 with
    | none => rw [he] at h'; cases h'
    | some o =>
      rw [he] at h'
      cases o with
      | ex n => cases h'
      | ok x => exact ⟨ρ1, x, rfl, he, h'⟩
/-- one item -/
theorem lcL_cons {t : GF} {tt : BF} {elt : EF} {ρ : Ev} {s : Sl} {ss : List Sl} {g : Bool} {ds : List PyData} {d : PyData} (h1 : kTl (t s ρ) tt = some (.ok true)) (h2 : kEl (t s ρ) elt = some (true, d)) (h3 : lcL t tt elt ρ ss = some (g, ds)) : lcL t tt elt ρ (s :: ss) = some (g, d :: ds) := by
  obtain ⟨ρ1, x, e1, e2, e3⟩ := kEl_ok h2
  have h1' : tt ρ1 = some (.ok true) := by rw [e1] at h1; exact h1
  rw [lcL, e1]
  dsimp only
  rw [h1']
  dsimp only
  rw [e2]
  dsimp only
  rw [e3, h3]
  rfl
theorem bYes_el {o : Option Ev} {elt : EF} {f : Bool} {d : PyData} (h : kEl o elt = some (f, d)) : kTl o bYes = some (.ok true) := by
  obtain ⟨ρ1, x, e1, e2, e3⟩ := kEl_ok h
  rw [e1]; rfl
/-- no test -/
theorem lcL_map {α : Type} {t : GF} {elt : EF} {ρ : Ev} {mk : α → Sl} {r : α → PyData} : ∀ (l : List α), (∀ a ∈ l, kEl (t (mk a) ρ) elt = some (true, r a)) → lcL t bYes elt ρ (l.map mk) = some (true, l.map r)
  | [], _ => rfl
  | a :: l, h => lcL_cons (bYes_el (h a List.mem_cons_self)) (h a List.mem_cons_self) (lcL_map l fun b hb => h b (List.mem_cons_of_mem _ hb))
end PL
namespace PL
open PySem PySem.Spec PyProof.Rows L2
mutual
/-- how many -/
def nn : PyData → Nat
  | .none => 1
  | .bool _ => 1
  | .int _ => 41
  | .str x => x.cps.size + 1
  | .list xs => nns xs + 1
  | .tuple xs => nns xs + 1
  | .dict _ => 1
def nns : List PyData → Nat
  | [] => 0
  | x :: xs => nn x + 1 + nns xs
end
theorem eqv_self {d : PyData} (h : d.plain = true) : PyData.eqv d d = true := PySem.SeqAt.eqv_refl_plain d h
def isI : PyData → Bool
  | .int _ => true
  | _ => false
theorem gNe_n {d e : PyData} (h : isI d = false) : gNe d e = if d.depth ≤ 60 then some (.bool (!PyData.eqv d e)) else none := by
  cases d <;> first | rfl | cases h
theorem gNe_self {d : PyData} (h : d.plain = true) (hd : d.depth ≤ 60) : gNe d d = some (.bool false) := by
  cases hi : isI d with
  | false => rw [gNe_n hi, if_pos hd, eqv_self h]; rfl
  | true =>
    cases d <;> first | cases hi | skip
    show some (PyData.bool (!cd _)) = _
    rw [cd_true rfl]; rfl
theorem gNe_str (x : Str) : gNe (.str x) (.str x) = some (.bool false) := gNe_self rfl (by simp only [PyData.depth]; omega)
end PL
namespace PL
open PySem PySem.Spec PyProof.Rows L2
section
variable {X : Cx} {H0 : En} {W : WX} {e a b c : Expr} {es : List Expr} {f g : EF} {pos apos cpos jp sp : Pos} {K : PySem.W.Frag} {B H B' H' : Hp} {σ : L2.St} {mg : Str → Option Value} {ρ : Ev} {kk : Nat}
def seqF : PyData → Option (List PyData)
  | .list ds => some ds
  | .tuple ds => some ds
  | _ => none
/-- x[j].append(e), x an owned datum: forgotten then -/
def sAppAt (i : Nat) (j : Int) (f : EF) : SF := fun ρ => match ρ[i]? with
  | some (.full d) => match seqF d with
    | some ds => match atI ds j with
      | some (.list es) => bSz (f ρ) ρ fun s => if es.length < 16777216 then some (.nx (ρ.set i .und)) else none
      | _ => none
    | none => none
  | _ => none
end
def kAA (i : Nat) (ρ : Ev) (o : Option PyData) (r : Option Rs) : Option Out := match o with
  | some (.list es) => bSz r ρ fun s => if es.length < 16777216 then some (.nx (ρ.set i .und)) else none
  | _ => none
def kAppAt (i : Nat) (j : Int) (ρ : Ev) (o : Option Sl) (r : Option Rs) : Option Out := match o with
  | some (.full d) => match seqF d with
    | some ds => kAA i ρ (atI ds j) r
    | none => none
  | _ => none
theorem ev_appAt (i : Nat) (j : Int) (f : EF) (ρ : Ev) : sAppAt i j f ρ = kAppAt i j ρ ρ[i]? (f ρ) := by
  unfold sAppAt kAppAt kAA
  rfl
theorem kAppAt_tuple (i : Nat) (j : Int) (ρ : Ev) (ds : List PyData) (r : Option Rs) : kAppAt i j ρ (some (.full (.tuple ds))) r = kAA i ρ (atI ds j) r := rfl
theorem kAppAt_list (i : Nat) (j : Int) (ρ : Ev) (ds : List PyData) (r : Option Rs) : kAppAt i j ρ (some (.full (.list ds))) r = kAA i ρ (atI ds j) r := rfl
theorem kAA_ok (i : Nat) (ρ : Ev) (es : List PyData) (s : Sl) (h : es.length < 16777216) : kAA i ρ (some (.list es)) (some (.ok s)) = some (.nx (ρ.set i .und)) := by
  show (if es.length < 16777216 then _ else _) = _
  rw [if_pos h]
theorem ev_andI (i j : Int) : gAnd (.int i) (.int j) = some (.int (Builtin.bitAnd i j)) := rfl
theorem ev_orI (i j : Int) : gOr (.int i) (.int j) = some (.int (Builtin.bitOr i j)) := rfl
theorem ev_shr (i j : Int) (h : 0 ≤ j) : gShr (.int i) (.int j) = some (.int (i / 2 ^ j.toNat)) := by
  show (if cd (0 ≤ j) = true then _ else _) = _
  rw [if_pos (cd_true h)]
theorem ev_shl (i j : Int) (h : 0 ≤ j) (h' : j ≤ 1000000) (h2 : i.natAbs < 18446744073709551616) : gShl (.int i) (.int j) = some (.int (i * 2 ^ j.toNat)) := by
  show (if cd (0 ≤ j ∧ j ≤ 1000000 ∧ i.natAbs < 18446744073709551616) = true then _ else _) = _
  rw [if_pos (cd_true ⟨h, h', h2⟩)]
end PL
namespace PL
open PySem PySem.Spec PyProof.Rows L2
def bmV : List Value := [.type "ValueError", .type "Exception", .type "BaseException", .type "object"]
/-- what the top has written of an own class of exceptions -/
structure ClsF (K : PySem.W.Frag) (mg : Str → Option Value) (x : Str) : Prop where
  ex : ∃ C, mg x = some (.ref C) ∧ PySem.W.excIn K C bmV "ValueError.__new__" = true ∧ PySem.W.keepIn K (.ref C) = true ∧ PySem.W.subIn K (.ref C) (.type "BaseException") = some true ∧ PySem.W.typeIn K (.ref C) = some (.type "type")
section
variable {X : Cx} {H0 : En} {W : WX} {e a b c : Expr} {es : List Expr} {f g : EF} {pos pos' np p p2 cpos : Pos} {K : PySem.W.Frag} {B H B' H' : Hp} {σ : L2.St} {mg : Str → Option Value} {ρ : Ev} {x n m : Str} {j : Nat}
def sRaise (x : Str) : SF := fun ρ => some (.ex x ρ)
theorem psdRaise (hc : X.calm = true) (tk : L2N.Takes X W) (F : ClsF X.K X.mg x) (hg : Gl X x := by rfl) (hdb : (x == ("__debug__" : Str)) = false := by decide) : PSD X H0 W (.Raise (some (.Call (.Name x p) [.Constant (.str m) j p2] [] cpos)) none pos) (sRaise x) := by
  obtain ⟨C, h1, h2, h3, h4, h5⟩ := F.ex
  exact ⟨psWeak (L2N.ps_raise hc tk (L2N.pmk_own PySem.F.excBase_ValueError h2 h1 h3 (raises_own h4 h5) hg hdb)) fun D σ H ⟨B, ρ, o, E, h, ho⟩ => by
    cases h
    exact ho (.ref C) σ B H h1 E (Same.refl _)⟩
def noEx : Ev → Bool
  | [] => true
  | .exn _ :: _ => false
  | _ :: ρ => noEx ρ
theorem noEx_at : ∀ {ρ : Ev} {i : Nat} {n : Str}, noEx ρ = true → ρ[i]? = some (.exn n) → False
  | [], _, _, _, h => by simp at h
  | s :: ρ, 0, n, h, hs => by
    have : s = .exn n := by simpa using hs
    subst this; cases h
  | s :: ρ, i + 1, n, h, hs => by
    refine noEx_at (ρ := ρ) (i := i) (n := n) ?_ (by simpa using hs)
    cases s <;> first | exact h | cases h
abbrev En.at (H0 : En) (a : Addr) (ec : Str → Prop) : En := ⟨H0.H, H0.B, a, ec, H0.so, H0.cl, H0.me⟩
theorem SR.at {N : Hp} {o : Option (Option V)} {s : Sl} {a : Addr} {ec : Str → Prop} (hs : ∀ n, s ≠ .exn n) (h : SR K H0 B N o s) : SR K (H0.at a ec) B N o s := by
  cases s with
  | und => trivial
  | val fr d => exact h
  | own fr ds => exact h
  | full d => exact h
  | bor fr ds => exact h
  | brf d => exact h
  | exn n => exact absurd rfl (hs n)
  | cel k => exact h
theorem ER.at (E : ER K H0 B H σ ρ) (h : noEx ρ = true) (a : Addr) (ec : Str → Prop) : ER K (H0.at a ec) B H σ ρ := by
  obtain ⟨F, f1, f2, f3, f4⟩ := E.ex
  exact ⟨E.e0, E.b0, E.n0, E.eB, E.len, F, f1, f2, f3, fun i s hs => (f4 i s hs).at fun n e => by subst e; exact noEx_at h hs⟩
theorem ER.off {a : Addr} {ec : Str → Prop} (E : ER K (H0.at a ec) B H σ ρ) (h : noEx ρ = true) : ER K H0 B H σ ρ := by
  have := ER.at E h H0.ea H0.ec
  exact this
def allU (ρ : Ev) : Ev := ρ.map fun _ => .und
theorem ER.offU {a : Addr} {ec : Str → Prop} (E : ER K (H0.at a ec) B H σ ρ) : ER K H0 B H σ (allU ρ) := by
  obtain ⟨F, f1, f2, f3, f4⟩ := E.ex
  refine ⟨E.e0, E.b0, E.n0, E.eB, by unfold allU; rw [List.length_map]; exact E.len, F, f1, f2, f3, fun i s hs => ?_⟩
  unfold allU at hs
  rw [List.getElem?_map] at hs
  cases q : ρ[i]? with
  | none => rw [q] at hs; cases hs
  | some u => rw [q] at hs; cases hs; trivial
theorem ER.setEx {i : Nat} {a : Addr} {n : Str} {ec : Str → Prop} (hn : ec n) (E : ER K (H0.at a ec) B H σ ρ) : ER K (H0.at a ec) B H (σ.set i (some (.ref a))) (ρ.set i (.exn n)) := by
  obtain ⟨F, f1, f2, f3, f4⟩ := E.ex
  refine ⟨E.e0, E.b0, E.n0, E.eB, by rw [List.length_set, List.length_set]; exact E.len, F, f1, f2, f3, fun j u hu => ?_⟩
  by_cases hj : j = i
  · subst hj
    have hl : j < ρ.length := by have := (List.getElem?_eq_some_iff.mp hu).1; rwa [List.length_set] at this
    rw [List.getElem?_set_self hl] at hu
    cases hu
    exact ⟨by rw [List.getElem?_set_self (by rw [E.len]; exact hl)], hn⟩
  · rw [List.getElem?_set_ne (Ne.symm hj)] at hu
    rw [List.getElem?_set_ne (Ne.symm hj)]
    exact f4 j u hu
/-- what the clause of class x does with each class: it takes it or not -/
abbrev Tab := List (Str × Bool)
def hOut (i : Nat) : Option Out → Option Out
  | some (.nx ρ) => if noEx (ρ.set i .und) = true then some (.nx (ρ.set i .und)) else none
  | some (.bk ρ) => if noEx (ρ.set i .und) = true then some (.bk (ρ.set i .und)) else none
  | some (.ct ρ) => if noEx (ρ.set i .und) = true then some (.ct (ρ.set i .und)) else none
  | some (.rt s) => some (.rt s)
  | _ => none
def sTryAs (body : SF) (tab : Tab) (i : Nat) (h : SF) : SF := fun ρ => match body ρ with
  | some (.ex n ρ1) => if noEx ρ1 = true then match tab.lookup n with
    | some true => hOut i (h (ρ1.set i (.exn n)))
    | some false => some (.ex n ρ1)
    | none => none
    else none
  | r => r
/-- the table tells what the model tells -/
def TabOk (K : PySem.W.Frag) (mg : Str → Option Value) (c : Value) (tab : Tab) : Prop := ∀ n b, tab.lookup n = some b → ∀ cls, mg n = some cls → PySem.W.exmOne K cls c = some b
def tH (K : PySem.W.Frag) (mg : Str → Option Value) (H0 : En) (h : SF) : Addr → Value → Option Addr → TS := fun a cls d D σ H => ∃ n B ρ o, mg n = some cls ∧ d = none ∧ ER K (H0.at a fun n => mg n = some cls) B H σ ρ ∧ h ρ = some o ∧ OUT K mg (H0.at a fun n => mg n = some cls) W0 B o D
theorem psdTryAs {body suite : List Stmt} {b₀ : Stmt} {i : Nat} {F h : SF} {tab : Tab} {cv : Value} (hs : X.stack = X.env :: X.outer) (hf : X.env.frame = some X.env.locals) (hN : X.N.Nodup) (hi : X.N[i]? = some n) (hln : X.env.kindOf n = some .local) (hc : Names X x cv) (tk : L2N.Takes X W) (ht : TabOk X.K X.mg cv tab)
    (hb : ∀ (W : WX) (pn : List (Addr × Obj)) (xe : Value → Shared → Prop), L2N.Takes (X.tr pn xe) W → PassesOwn (model X.prog X.w) X.A X.env xe → PSDs (X.tr pn xe) H0 W body F)
    (hsu : ∀ (a : Addr) (oe : Obj) (pn : List (Addr × Obj)) (cls : Value), L2N.Zn cls none oe → (∃ vs, oe.data = .fields vs) → PSDs (X.suite a ((a, oe) :: pn)) (H0.at a fun n => X.mg n = some cls) W0 (b₀ :: suite) h) :
    PSD X H0 W (.Try body [.ExceptHandler (some (.Name x np)) (some n) (b₀ :: suite) pos'] [] [] pos) (sTryAs F tab i h) := by
  refine ⟨psWeak (L2N.ps_try_as (Wout := W) (tb := fun W => tS X.K X.mg H0 W F) (ts := tH X.K X.mg H0 h) hs hf hN hi hln hc tk (fun W' pn xe tk' hp => (hb W' pn xe tk' hp).pss) (fun a oe cls d pn hz hfl => ?_)) fun D σ H ⟨B, ρ, o, E, hF, ho⟩ => ?_⟩
  · refine ⟨fun pins s σ H D I hh => ?_⟩
    obtain ⟨n', B, ρ, o, hm, hd, E, h1, h2⟩ := hh
    subst hd
    exact (hsu a oe pn cls hz hfl).pss.run pins s σ H D I ⟨B, ρ, o, E, h1, h2⟩
  · unfold sTryAs at hF
    cases r : F ρ with
    | none => rw [r] at hF; cases hF
    | some o1 =>
      rw [r] at hF
      refine ⟨B, ρ, o1, E, r, ?_⟩
      cases o1 with
      | nx ρ' => cases hF; exact ho
      | rt s => cases hF; exact ho
      | bk ρ' => cases hF; exact ho
      | ct ρ' => cases hF; exact ho
      | ex n1 ρ1 =>
        dsimp only at hF
        split at hF
        · rename_i hne
          intro cls σ1 B1 H1 hm1 E1 s1
          cases hl : tab.lookup n1 with
          | none => rw [hl] at hF; cases hF
          | some b1 =>
            rw [hl] at hF
            refine ⟨b1, ht n1 b1 hl cls hm1, fun hb1 a na => ?_, fun hb1 => ?_⟩
            · subst hb1
              dsimp only at hF
              have E2 := (E1.at hne a fun n => X.mg n = some cls).setEx (i := i) (n := n1) hm1
              cases rh : h (ρ1.set i (.exn n1)) with
              | none => rw [rh] at hF; cases hF
              | some oh =>
                rw [rh] at hF
                refine ⟨n1, B1, _, oh, hm1, rfl, E2, rh, ?_⟩
                have ho1 := ho.same s1
                cases oh with
                | nx ρ2 =>
                  unfold hOut at hF
                  dsimp only at hF
                  split at hF
                  · rename_i hn2
                    cases hF
                    exact fun σ3 B3 H3 E3 s3 => ho1 _ B3 H3 ((E3.forget none).off hn2) s3
                  · cases hF
                | bk ρ2 =>
                  unfold hOut at hF
                  dsimp only at hF
                  split at hF
                  · rename_i hn2
                    cases hF
                    exact fun σ3 B3 H3 E3 s3 => ho1 _ B3 H3 ((E3.forget none).off hn2) s3
                  · cases hF
                | ct ρ2 =>
                  unfold hOut at hF
                  dsimp only at hF
                  split at hF
                  · rename_i hn2
                    cases hF
                    exact fun σ3 B3 H3 E3 s3 => ho1 _ B3 H3 ((E3.forget none).off hn2) s3
                  · cases hF
                | rt s =>
                  cases hF
                  exact fun v σ3 ρ3 B3 H3 T E3 s3 t1 t2 rr => ho1 v σ3 _ B3 H3 T E3.offU s3 t1 t2 (by cases s <;> exact rr)
                | ex n2 ρ2 => cases hF
            · subst hb1
              dsimp only at hF
              cases hF
              exact ho.same s1 cls σ1 B1 H1 hm1 E1 (Same.refl _)
        · cases hF
/-- except x: suite -/
def hOut0 : Option Out → Option Out
  | some (.nx ρ) => if noEx ρ = true then some (.nx ρ) else none
  | some (.bk ρ) => if noEx ρ = true then some (.bk ρ) else none
  | some (.ct ρ) => if noEx ρ = true then some (.ct ρ) else none
  | some (.rt s) => some (.rt s)
  | _ => none
def sTry (body : SF) (tab : Tab) (h : SF) : SF := fun ρ => match body ρ with
  | some (.ex n ρ1) => if noEx ρ1 = true then match tab.lookup n with
    | some true => hOut0 (h ρ1)
    | some false => some (.ex n ρ1)
    | none => none
    else none
  | r => r
def eIsE (i : Nat) (tab : Tab) : EF := fun ρ => match ρ[i]? with
  | some (.exn n) => match tab.lookup n with
    | some b => some (.ok (.val true (.bool b)))
    | none => none
  | _ => none
/-- the table tells what isinstance tells, class by class -/
def IsOk (K : PySem.W.Frag) (mg : Str → Option Value) (cv : Value) (tab : Tab) : Prop := ∀ n b, tab.lookup n = some b → ∃ D, mg n = some (.ref D) ∧ ExcC K D ∧ PySem.W.kitOne K (.ref D) cv = some b
end
end PL
namespace PL
open PySem PySem.Spec PyProof.Rows L2
def pickL {α : Type} (xs : List α) (k : Int) : List α := (sliceRange 0 xs.length k).filterMap fun i => xs[i]?
section
variable {X : Cx} {H0 : En} {W : WX} {e a b c st : Expr} {es : List Expr} {f g : EF} {pos p p3 : Pos} {x : Str}
noncomputable def fStep (x y : Sl) : Option Sl := match lstD x with
  | some (fr, ds) => match dat y with
    | some (.int k) => if cd (0 < k) = true then some (.own fr (pickL ds k)) else none
    | _ => none
  | none => none
theorem pdGlo {v : V} {d : PyData} {u : Value} (hm : X.mg x = some u) (r : RelV v u) (hd : ∀ L, Rep L v d) (hg : Gl X x := by rfl) (hdb : (x == ("__debug__" : Str)) = false := by decide) : PD X H0 W (.Name x p) (eC d) := pdC (pe_glob hg hm r hdb) hd
theorem pdGloI {i : Int} (hm : ∃ t, X.mg x = some (.int i t)) (hg : Gl X x := by rfl) (hdb : (x == ("__debug__" : Str)) = false := by decide) : PD X H0 W (.Name x p) (eC (.int i)) := by
  obtain ⟨t, hm⟩ := hm
  exact pdGlo (v := .int i) hm ⟨t, rfl⟩ (fun _ => .int i) hg hdb
variable {K : PySem.W.Frag} {mg : Str → Option Value} {cv cls : Value} {n : Str} {bb : Bool} {tab : Tab} {D : Addr}
theorem TabOk.nil : TabOk K mg cv [] := fun n b h => by cases h
theorem TabOk.cons (h : mg n = some cls) (e : PySem.W.exmOne K cls cv = some bb) (t : TabOk K mg cv tab) : TabOk K mg cv ((n, bb) :: tab) := fun m b hl c hc => by
  rw [List.lookup_cons] at hl
  split at hl
  · rename_i hm
    have : m = n := by simpa using hm
    subst this
    cases hl
    rw [h] at hc
    cases hc
    exact e
  · exact t m b hl c hc
theorem IsOk.nil : IsOk K mg cv [] := fun n b h => by cases h
theorem IsOk.cons (h : mg n = some (.ref D)) (e1 : ExcC K D) (e : PySem.W.kitOne K (.ref D) cv = some bb) (t : IsOk K mg cv tab) : IsOk K mg cv ((n, bb) :: tab) := fun m b hl => by
  rw [List.lookup_cons] at hl
  split at hl
  · rename_i hm
    have : m = n := by simpa using hm
    subst this
    cases hl
    exact ⟨D, h, e1, e⟩
  · exact t m b hl
theorem kit_ref {C D : Addr} (h : PySem.W.subIn K (.ref D) (.ref C) = some bb) (o : PySem.W.subIn K (.ref C) (.ref C) = some true) (hdct : PySem.W.hasDictIn K C = true) (ht : PySem.W.typeIn K (.ref C) = some (.type "type")) : PySem.W.kitOne K (.ref D) (.ref C) = some bb := by
  unfold PySem.W.kitOne
  split
  · rename_i e
    have : D = C := Value.ref.inj (beq_iff_eq.mp e)
    subst this
    rw [o] at h
    exact h
  · obtain ⟨cd, hc, _⟩ := PySem.W.any_some hdct
    have e2 : ((PySem.W.clsIn K C).isSome && PySem.W.typeIn K (.ref C) == some (.type "type")) = true := by rw [hc, ht] <;> rfl
    show (if ((PySem.W.clsIn K C).isSome && PySem.W.typeIn K (.ref C) == some (.type "type")) = true then PySem.W.subIn K (.ref D) (.ref C) else none) = some bb
    rw [if_pos e2]
    exact h
theorem kit_ty {T : String} {D : Addr} (h : PySem.W.subIn K (.ref D) (.type T) = some bb) (m : PySem.W.kitMeta T = true) : PySem.W.kitOne K (.ref D) (.type T) = some bb := by
  unfold PySem.W.kitOne
  rw [if_neg (by intro z; cases (beq_iff_eq.mp z))]
  show (if PySem.W.kitMeta T = true then PySem.W.subIn K (.ref D) (.type T) else none) = some bb
  rw [if_pos m]
  exact h
end
end PL
namespace PL
open PySem PySem.Spec PyProof.Rows L2
theorem ev_raise (x : Str) (ρ : Ev) : sRaise x ρ = some (.ex x ρ) := rfl
def kTA (tab : Tab) (i : Nat) (h : SF) (o : Option Out) : Option Out := match o with
  | some (.ex n ρ1) => if noEx ρ1 = true then match tab.lookup n with
    | some true => hOut i (h (ρ1.set i (.exn n)))
    | some false => some (.ex n ρ1)
    | none => none
    else none
  | r => r
theorem ev_tryAs (b : SF) (tab : Tab) (i : Nat) (h : SF) (ρ : Ev) : sTryAs b tab i h ρ = kTA tab i h (b ρ) := rfl
theorem kTA_nx (tab : Tab) (i : Nat) (h : SF) (ρ : Ev) : kTA tab i h (some (.nx ρ)) = some (.nx ρ) := rfl
theorem kTA_rt (tab : Tab) (i : Nat) (h : SF) (s : Sl) : kTA tab i h (some (.rt s)) = some (.rt s) := rfl
def kTA2 (i : Nat) (h : SF) (n : Str) (ρ : Ev) (o : Option Bool) : Option Out := match o with
  | some true => hOut i (h (ρ.set i (.exn n)))
  | some false => some (.ex n ρ)
  | none => none
theorem kTA_ex (tab : Tab) (i : Nat) (h : SF) (n : Str) (ρ : Ev) (hn : noEx ρ = true) : kTA tab i h (some (.ex n ρ)) = kTA2 i h n ρ (tab.lookup n) := by
  show (if noEx ρ = true then _ else _) = _
  rw [if_pos hn]; rfl
theorem kTA2_true (i : Nat) (h : SF) (n : Str) (ρ : Ev) : kTA2 i h n ρ (some true) = hOut i (h (ρ.set i (.exn n))) := rfl
theorem kTA2_false (i : Nat) (h : SF) (n : Str) (ρ : Ev) : kTA2 i h n ρ (some false) = some (.ex n ρ) := rfl
theorem hOut_rt (i : Nat) (s : Sl) : hOut i (some (.rt s)) = some (.rt s) := rfl
theorem hOut_nx (i : Nat) (ρ : Ev) (h : noEx (ρ.set i .und) = true) : hOut i (some (.nx ρ)) = some (.nx (ρ.set i .und)) := by
  show (if noEx (ρ.set i .und) = true then _ else _) = _
  rw [if_pos h]
theorem noEx_nil : noEx [] = true := rfl
theorem noEx_und (ρ : Ev) : noEx (.und :: ρ) = noEx ρ := by cases ρ <;> rfl
theorem noEx_val (fr : Bool) (d : PyData) (ρ : Ev) : noEx (.val fr d :: ρ) = noEx ρ := by cases ρ <;> rfl
theorem noEx_own (fr : Bool) (d : List PyData) (ρ : Ev) : noEx (.own fr d :: ρ) = noEx ρ := by cases ρ <;> rfl
theorem noEx_full (d : PyData) (ρ : Ev) : noEx (.full d :: ρ) = noEx ρ := by cases ρ <;> rfl
def kIE (tab : Tab) (o : Option Sl) : Option Rs := match o with
  | some (.exn n) => match tab.lookup n with
    | some b => some (.ok (.val true (.bool b)))
    | none => none
  | _ => none
theorem ev_isE (i : Nat) (tab : Tab) (ρ : Ev) : eIsE i tab ρ = kIE tab ρ[i]? := by unfold eIsE kIE; rfl
def kIE2 (o : Option Bool) : Option Rs := match o with | some b => some (.ok (.val true (.bool b))) | none => none
theorem kIE_ex (tab : Tab) (n : Str) : kIE tab (some (.exn n)) = kIE2 (tab.lookup n) := rfl
theorem kIE2_some (b : Bool) : kIE2 (some b) = some (.ok (.val true (.bool b))) := rfl
theorem ev_step (a b : Bool) (ds : List PyData) (k : Int) (h : 0 < k) : fStep (.val a (.list ds)) (.val b (.int k)) = some (.own (a || ds.all PL.scal) (pickL ds k)) := by
  show (if cd (0 < k) = true then _ else _) = _
  rw [if_pos (cd_true h)]
theorem ev_isNN (neg : Bool) : gIs neg .none .none = some (.bool (!neg)) := rfl
theorem ev_isBB (neg a b : Bool) : gIs neg (.bool a) (.bool b) = some (.bool (neg ^^ decide (a = b))) := rfl
theorem ev_isLN (neg : Bool) (ds : List PyData) : gIs neg (.list ds) .none = some (.bool neg) := rfl
theorem ev_isTN (neg : Bool) (ds : List PyData) : gIs neg (.tuple ds) .none = some (.bool neg) := rfl
theorem ev_isIN (neg : Bool) (i : Int) : gIs neg (.int i) .none = some (.bool neg) := rfl
theorem ev_all (bs : List Bool) : gAll (.list (bs.map .bool)) = some (.bool (bs.all id)) := by
  show ((blsD (bs.map .bool)).map fun ns => PyData.bool (ns.all id)) = _
  rw [blsD_map]; rfl
theorem ev_any (bs : List Bool) : gAny (.list (bs.map .bool)) = some (.bool (bs.any id)) := by
  show ((blsD (bs.map .bool)).map fun ns => PyData.bool (ns.any id)) = _
  rw [blsD_map]; rfl
end PL
namespace PL
open PySem PySem.Spec PyProof.Rows L2
section
variable {X : Cx} {H0 : En} {W : WX} {e a b c : Expr} {es : List Expr} {f g : EF} {pos pos' np p p2 cpos : Pos} {K : PySem.W.Frag} {B H B' H' : Hp} {σ : L2.St} {mg : Str → Option Value} {ρ : Ev} {x n m : Str} {j : Nat} {Q : VK}
def IsOkT (K : PySem.W.Frag) (mg : Str → Option Value) (cvs : List Value) (tab : Tab) : Prop := ∀ n b, tab.lookup n = some b → ∃ D, mg n = some (.ref D) ∧ ExcC K D ∧ PySem.W.kitAny K (.ref D) cvs = some b
variable {cv cls : Value} {cvs : List Value} {bb : Bool} {tab : Tab} {D : Addr}
theorem IsOkT.nil : IsOkT K mg cvs [] := fun n b h => by cases h
theorem IsOkT.cons (h : mg n = some (.ref D)) (e1 : ExcC K D) (e : PySem.W.kitAny K (.ref D) cvs = some bb) (t : IsOkT K mg cvs tab) : IsOkT K mg cvs ((n, bb) :: tab) := fun m b hl => by
  rw [List.lookup_cons] at hl
  split at hl
  · rename_i hm
    have : m = n := by simpa using hm
    subst this
    cases hl
    exact ⟨D, h, e1, e⟩
  · exact t m b hl
end
theorem ev_ixF (b : Bool) (ds : List PyData) (i : Int) (h : ds.all PL.scal = false) : fIx (.brf (.tuple ds)) (.val b (.int i)) = (atI ds i).map mkb := by
  show (match (if ds.all PL.scal = true then some (true, ds) else none) with | some (fr, ds) => (atI ds i).map (mkv fr) | none => _) = _
  rw [h]; rfl
theorem ev_ixFL (b : Bool) (ds : List PyData) (i : Int) (h : ds.all PL.scal = false) : fIx (.brf (.list ds)) (.val b (.int i)) = (atI ds i).map mkb := by
  show (match lstR (.brf (.list ds)) with | some (fr, ds) => (atI ds i).map (mkv fr) | none => _) = _
  rw [show lstR (.brf (.list ds)) = if ds.all PL.scal = true then some (true, ds) else none from rfl, h]; rfl
theorem mkb_int (i : Int) : mkb (.int i) = .val true (.int i) := rfl
theorem mkb_bool (i : Bool) : mkb (.bool i) = .val true (.bool i) := rfl
theorem mkb_list (d : List PyData) : mkb (.list d) = .brf (.list d) := rfl
theorem mkb_tuple (d : List PyData) : mkb (.tuple d) = .brf (.tuple d) := rfl
end PL
namespace PL
open PySem PySem.Spec PyProof.Rows L2
end PL
namespace RT
open PySem PySem.Spec PyProof.Rows
end RT
namespace PL
open PySem PySem.Spec PyProof.Rows L2 RT
end PL
namespace PL
open PySem PySem.Spec PyProof.Rows L2
section
variable {X : Cx} {H0 : En} {W : WX} {K : PySem.W.Frag} {B H B' H' : Hp} {σ : L2.St} {mg : Str → Option Value} {ρ : Ev}
/-- the inner lists so far -/
def Inn (K : PySem.W.Frag) (H0 : En) (B0 : Hp) (B H : Hp) (D : Addr) (ps : List Addr) (dss : List (List PyData)) : Prop :=
  D ∉ ps ∧ ps.Nodup ∧ ps.length = dss.length ∧ (∀ q ∈ ps, B0 q = none ∧ B q = none) ∧ ∀ (i : Nat) q ds, ps[i]? = some q → dss[i]? = some ds → ∃ vs, H q = some (.lst vs) ∧ RepAll (LF K H0 B true) vs ds
theorem Inn.nx {D : Addr} {ps : List Addr} {dss : List (List PyData)} {B0 : Hp} (h : Inn K H0 B0 B H D ps dss) (n : Nx B H B' H') : Inn K H0 B0 B' H' D ps dss := by
  obtain ⟨h1, h2, h3, h4, h5⟩ := h
  refine ⟨h1, h2, h3, fun q hq => ⟨(h4 q hq).1, n.no q (h4 q hq).2 ?_⟩, fun i q ds a b => let ⟨vs, c, d⟩ := h5 i q ds a b; ⟨vs, n.h _ _ c, d.mono (LF.mono n.b)⟩⟩
  obtain ⟨i, hi, rfl⟩ := List.mem_iff_getElem.mp hq
  obtain ⟨vs, c, -⟩ := h5 i ps[i] dss[i] (List.getElem?_eq_getElem hi) (List.getElem?_eq_getElem (by omega))
  rw [c]; simp
variable {elt tg iter e a b c : Expr} {es : List Expr} {ifs : List Expr} {scope : Scope} {own : List (Str × Nat)} {pos apos cpos tpos sp jp : Pos} {g : IF} {t : GF} {bt : BF} {ef f fi : EF} {gt : TG}
theorem ER.wrC {i : Nat} {k k' : CK} {v : V} {p : Addr} {u : HO} (E : ER K H0 B H σ ρ) (hi : ρ[i]? = some (.cel k)) (hv : σ[i]? = some (some v)) (hp : ∀ N, Same N H → CelR K H0 B N v k → N p ≠ none) (hn : ∀ N, Same N H → CelR K H0 B N v k → CelR K H0 B (upd N p u) v k') :
    ER K H0 B (upd H p u) σ (ρ.set i (.cel k')) := by
  obtain ⟨F, f1, f2, f3, f4⟩ := E.ex
  obtain ⟨v', e1, r1⟩ := f4 i _ hi
  have : v' = v := by rw [hv] at e1; exact (Option.some.inj (Option.some.inj e1)).symm
  subst this
  have hF : F i p ≠ none := hp _ (f1 i) r1
  obtain ⟨g1, g2⟩ := f2 i p hF
  refine ⟨same_updD E.e0 g2, E.b0, E.n0, same_updD E.eB g1, by rw [List.length_set]; exact E.len, fun j => if j = i then upd (F i) p u else F j, ⟨fun j => ?_, fun j a h => ?_, fun j k a hjk h => ?_, fun j w hu => ?_⟩⟩
  · dsimp only
    split
    · intro a o q
      by_cases ha : a = p
      · subst ha; rw [upd_same] at q ⊢; exact q
      · rw [upd_ne ha] at q ⊢; exact f1 i a o q
    · rename_i hj
      exact same_updD (f1 j) (f3 i j p (Ne.symm hj) hF)
  · dsimp only at h
    split at h
    · by_cases ha : a = p
      · subst ha; exact ⟨g1, g2⟩
      · rw [upd_ne ha] at h; exact f2 i a h
    · exact f2 j a h
  · dsimp only at h ⊢
    split at h
    · rename_i hji
      rw [if_neg (by omega)]
      by_cases ha : a = p
      · subst ha; exact f3 i k a (by omega) hF
      · rw [upd_ne ha] at h; exact f3 i k a (by omega) h
    · split
      · rename_i hji hki
        have ha : a ≠ p := fun z => by subst z; exact h (f3 i j a (Ne.symm hji) hF)
        rw [upd_ne ha]
        exact f3 j i a hji h
      · exact f3 j k a hjk h
  · dsimp only
    by_cases hj : j = i
    · subst hj
      have hl : j < ρ.length := by have := (List.getElem?_eq_some_iff.mp hu).1; rwa [List.length_set] at this
      rw [List.getElem?_set_self hl] at hu
      have hu' := Option.some.inj hu
      subst hu'
      rw [if_pos rfl]
      exact ⟨v', hv, hn _ (f1 j) r1⟩
    · rw [List.getElem?_set_ne (Ne.symm hj)] at hu
      rw [if_neg hj]
      exact f4 j w hu
theorem ER.celAt {i : Nat} {k : CK} (E : ER K H0 B H σ ρ) (hi : ρ[i]? = some (.cel k)) : ∃ v N, σ[i]? = some (some v) ∧ Same N H ∧ CelR K H0 B N v k ∧ (∀ a, N a ≠ none → B a = none) := by
  obtain ⟨F, f1, f2, f3, f4⟩ := E.ex
  obtain ⟨v, e1, r1⟩ := f4 i _ hi
  exact ⟨v, F i, e1, f1 i, r1, fun a h => (f2 i a h).1⟩
/-- the slot is frozen -/
def gFrzN (i : Nat) (ρ : Ev) : Option Ev := match ρ[i]? with
  | some (.cel (.nst dss)) => some (ρ.set i (.val true (.list (dss.map .list))))
  | _ => none
end
end PL
namespace PL
open PySem PySem.Spec PyProof.Rows L2
theorem u1 {n m : Nat} (h : n + 64 < m) : n + 1 < m := by omega
abbrev DI := List (Int × SV)
def getI (m : DI) (k : Int) : Option SV := (m.find? fun e => decide (e.1 = k)).map (·.2)
def putI (m : DI) (k : Int) (x : SV) : DI := if (m.any fun e => decide (e.1 = k)) = true then m.map (fun e => if e.1 = k then (e.1, x) else e) else m ++ [(k, x)]
def svF : PyData → Option SV
  | .int i => some (.i i)
  | .bool b => some (.b b)
  | _ => none
section
variable {X : Cx} {H0 : En} {W : WX} {K : PySem.W.Frag} {B H B' H' : Hp} {σ : L2.St} {mg : Str → Option Value} {ρ : Ev}
variable {e a b c : Expr} {pos apos cpos tpos sp : Pos} {f fi fk fv : EF} {m : DI}
/-- {} -/
def eDNewI : EF := fun _ => some (.ok (.cel (.dI [])))
/-- {k: v} -/
def eDOneI (fk fv : EF) : EF := fun ρ => PL.bz (fk ρ) fun x => PL.bz (fv ρ) fun y => match dat x, (dat y).bind svF with
  | some (.int k), some z => some (.ok (.cel (.dI [(k, z)])))
  | _, _ => none
/-- k in d, k not in d -/
def eDIn (neg : Bool) (i : Nat) (fk : EF) : EF := fun ρ => PL.bz (fk ρ) fun x => match dat x, ρ[i]? with
  | some (.int k), some (.cel (.dI m)) => some (.ok (.val true (.bool (neg ^^ (getI m k).isSome))))
  | _, _ => none
/-- d[k] -/
def eDGet (i : Nat) (fk : EF) : EF := fun ρ => match ρ[i]? with
  | some (.cel (.dI m)) => PL.bz (fk ρ) fun x => match dat x with
    | some (.int k) => match getI m k with
      | some z => some (.ok (.val true z.d))
      | none => none
    | _ => none
  | _ => none
/-- d[k] = v -/
def sDPut (i : Nat) (fk fv : EF) : SF := fun ρ => match ρ[i]? with
  | some (.cel (.dI m)) => bSz (fv ρ) ρ fun y => bSz (fk ρ) ρ fun x => match dat x, (dat y).bind svF with
    | some (.int k), some z => if m.length < 16777216 then some (.nx (ρ.set i (.cel (.dI (putI m k z))))) else none
    | _, _ => none
  | _ => none
end
theorem kSet_cel (i : Nat) (ρ : Ev) (k : CK) : kSet i ρ (some (.ok (.cel k))) = some (.nx (ρ.set i (.cel k))) := rfl
def kFrzN (i : Nat) (ρ : Ev) (o : Option Sl) : Option Ev := match o with
  | some (.cel (.nst dss)) => some (ρ.set i (.val true (.list (dss.map .list))))
  | _ => none
theorem ev_gfrzN (i : Nat) (ρ : Ev) : gFrzN i ρ = kFrzN i ρ ρ[i]? := by unfold gFrzN kFrzN; rfl
theorem kFrzN_nst (i : Nat) (ρ : Ev) (dss : List (List PyData)) : kFrzN i ρ (some (.cel (.nst dss))) = some (ρ.set i (.val true (.list (dss.map .list)))) := rfl
theorem ev_dnewI (ρ : Ev) : eDNewI ρ = some (.ok (.cel (.dI []))) := rfl
def kDOneI (a b : Option Rs) : Option Rs := PL.bz a fun x => PL.bz b fun y => match dat x, (dat y).bind svF with
  | some (.int k), some z => some (.ok (.cel (.dI [(k, z)])))
  | _, _ => none
theorem ev_doneI (fk fv : EF) (ρ : Ev) : eDOneI fk fv ρ = kDOneI (fk ρ) (fv ρ) := rfl
theorem kDOneI_i (a b : Bool) (k z : Int) : kDOneI (some (.ok (.val a (.int k)))) (some (.ok (.val b (.int z)))) = some (.ok (.cel (.dI [(k, .i z)]))) := rfl
theorem kDOneI_b (a b : Bool) (k : Int) (z : Bool) : kDOneI (some (.ok (.val a (.int k)))) (some (.ok (.val b (.bool z)))) = some (.ok (.cel (.dI [(k, .b z)]))) := rfl
def kDIn (neg : Bool) (o : Option Sl) (r : Option Rs) : Option Rs := PL.bz r fun x => match dat x, o with
  | some (.int k), some (.cel (.dI m)) => some (.ok (.val true (.bool (neg ^^ (getI m k).isSome))))
  | _, _ => none
theorem ev_din (neg : Bool) (i : Nat) (fk : EF) (ρ : Ev) : eDIn neg i fk ρ = kDIn neg ρ[i]? (fk ρ) := by unfold eDIn kDIn; rfl
theorem kDIn_ok (neg a : Bool) (m : DI) (k : Int) : kDIn neg (some (.cel (.dI m))) (some (.ok (.val a (.int k)))) = some (.ok (.val true (.bool (neg ^^ (getI m k).isSome)))) := rfl
def kDG (o : Option SV) : Option Rs := match o with | some z => some (.ok (.val true z.d)) | none => none
def kDGet (o : Option Sl) (r : Option Rs) : Option Rs := match o with
  | some (.cel (.dI m)) => PL.bz r fun x => match dat x with
    | some (.int k) => kDG (getI m k)
    | _ => none
  | _ => none
theorem ev_dget (i : Nat) (fk : EF) (ρ : Ev) : eDGet i fk ρ = kDGet ρ[i]? (fk ρ) := by unfold eDGet kDGet kDG; rfl
theorem kDGet_ok (m : DI) (a : Bool) (k : Int) : kDGet (some (.cel (.dI m))) (some (.ok (.val a (.int k)))) = kDG (getI m k) := rfl
theorem kDG_some (z : SV) : kDG (some z) = some (.ok (.val true z.d)) := rfl
theorem sv_di (i : Int) : (SV.i i).d = .int i := rfl
theorem sv_db (i : Bool) : (SV.b i).d = .bool i := rfl
def kDPut (i : Nat) (ρ : Ev) (o : Option Sl) (r q : Option Rs) : Option Out := match o with
  | some (.cel (.dI m)) => bSz r ρ fun y => bSz q ρ fun x => match dat x, (dat y).bind svF with
    | some (.int k), some z => if m.length < 16777216 then some (.nx (ρ.set i (.cel (.dI (putI m k z))))) else none
    | _, _ => none
  | _ => none
theorem ev_dput (i : Nat) (fk fv : EF) (ρ : Ev) : sDPut i fk fv ρ = kDPut i ρ ρ[i]? (fv ρ) (fk ρ) := by unfold sDPut kDPut; rfl
theorem kDPut_i (i : Nat) (ρ : Ev) (m : DI) (a b : Bool) (k z : Int) (h : m.length < 16777216) : kDPut i ρ (some (.cel (.dI m))) (some (.ok (.val a (.int z)))) (some (.ok (.val b (.int k)))) = some (.nx (ρ.set i (.cel (.dI (putI m k (.i z)))))) := by
  show (if m.length < 16777216 then _ else _) = _
  rw [if_pos h]
theorem kDPut_b (i : Nat) (ρ : Ev) (m : DI) (a b : Bool) (k : Int) (z : Bool) (h : m.length < 16777216) : kDPut i ρ (some (.cel (.dI m))) (some (.ok (.val a (.bool z)))) (some (.ok (.val b (.int k)))) = some (.nx (ρ.set i (.cel (.dI (putI m k (.b z)))))) := by
  show (if m.length < 16777216 then _ else _) = _
  rw [if_pos h]
end PL
namespace PL
open PySem PySem.Spec PyProof.Rows L2
section
variable {X : Cx} {H0 : En} {W : WX} {e : Expr} {f : EF} {K : PySem.W.Frag} {B H B' H' : Hp} {σ : L2.St} {mg : Str → Option Value} {ρ : Ev}
def fzR (o : Option Rs) : Option Rs := match o with
  | some (.ok s) => match dat (frz s) with
    | some d => if scal d = true then some (.ok (.val true d)) else none
    | none => none
  | some (.ex n) => some (.ex n)
  | none => none
def eFz (i : Nat) (f : EF) : EF := fun ρ => match gFrz i ρ with | some ρ' => fzR (f ρ') | none => none
end
def kFz (o : Option Ev) (f : EF) : Option Rs := match o with | some ρ' => fzR (f ρ') | none => none
theorem ev_fz (i : Nat) (f : EF) (ρ : Ev) : eFz i f ρ = kFz (gFrz i ρ) f := by unfold eFz kFz; rfl
theorem kFz_some (ρ : Ev) (f : EF) : kFz (some ρ) f = fzR (f ρ) := rfl
theorem fzR_int (fr : Bool) (i : Int) : fzR (some (.ok (.val fr (.int i)))) = some (.ok (.val true (.int i))) := rfl
theorem fzR_bool (fr : Bool) (i : Bool) : fzR (some (.ok (.val fr (.bool i)))) = some (.ok (.val true (.bool i))) := rfl
theorem fzR_ex (n : Str) : fzR (some (.ex n)) = some (.ex n) := rfl
end PL
namespace PL
open PySem PySem.Spec PyProof.Rows L2
section
variable {X : Cx} {H0 : En} {W : WX} {e : Expr} {f : EF} {K : PySem.W.Frag} {B H B' H' : Hp} {σ : L2.St} {mg : Str → Option Value} {ρ : Ev}
def popL (o : Option Sl) : Option (Bool × List PyData × PyData) := match o with
  | some (.own fr ds) => match ds[ds.length - 1]? with
    | some d => some (fr, ds.dropLast, d)
    | none => none
  | _ => none
def sPop (i j : Nat) : SF := fun ρ => match popL ρ[j]? with
  | some (fr, ds, d) => some (.nx ((ρ.set j (.own fr ds)).set i (.val fr d)))
  | none => none
end
def kPop (i j : Nat) (ρ : Ev) (o : Option (Bool × List PyData × PyData)) : Option Out := match o with
  | some (fr, ds, d) => some (.nx ((ρ.set j (.own fr ds)).set i (.val fr d)))
  | none => none
theorem ev_pop (i j : Nat) (ρ : Ev) : sPop i j ρ = kPop i j ρ (popL ρ[j]?) := by unfold sPop kPop; rfl
theorem kPop_some (i j : Nat) (ρ : Ev) (fr : Bool) (ds : List PyData) (d : PyData) : kPop i j ρ (some (fr, ds, d)) = some (.nx ((ρ.set j (.own fr ds)).set i (.val fr d))) := rfl
theorem popL_snoc (fr : Bool) (ds : List PyData) (d : PyData) : popL (some (.own fr (ds ++ [d]))) = some (fr, ds, d) := by
  have e : (ds ++ [d])[(ds ++ [d]).length - 1]? = some d := by
    rw [List.length_append, List.length_singleton, Nat.add_sub_cancel, List.getElem?_append_right (Nat.le_refl _), Nat.sub_self]; rfl
  show (match (ds ++ [d])[(ds ++ [d]).length - 1]? with | some d' => some (fr, (ds ++ [d]).dropLast, d') | none => none) = _
  rw [e, List.dropLast_concat]
def kTr2 (h : SF) (n : Str) (ρ : Ev) (o : Option Bool) : Option Out := match o with
  | some true => hOut0 (h ρ)
  | some false => some (.ex n ρ)
  | none => none
def kTr (tab : Tab) (h : SF) (o : Option Out) : Option Out := match o with
  | some (.ex n ρ1) => if noEx ρ1 = true then match tab.lookup n with
    | some true => hOut0 (h ρ1)
    | some false => some (.ex n ρ1)
    | none => none
    else none
  | r => r
theorem ev_try (b : SF) (tab : Tab) (h : SF) (ρ : Ev) : sTry b tab h ρ = kTr tab h (b ρ) := rfl
theorem kTr_nx (tab : Tab) (h : SF) (ρ : Ev) : kTr tab h (some (.nx ρ)) = some (.nx ρ) := rfl
theorem kTr_rt (tab : Tab) (h : SF) (s : Sl) : kTr tab h (some (.rt s)) = some (.rt s) := rfl
theorem kTr_ex (tab : Tab) (h : SF) (n : Str) (ρ : Ev) (hn : noEx ρ = true) : kTr tab h (some (.ex n ρ)) = kTr2 h n ρ (tab.lookup n) := by
  show (if noEx ρ = true then _ else _) = _
  rw [if_pos hn]; rfl
theorem kTr2_true (h : SF) (n : Str) (ρ : Ev) : kTr2 h n ρ (some true) = hOut0 (h ρ) := rfl
theorem kTr2_false (h : SF) (n : Str) (ρ : Ev) : kTr2 h n ρ (some false) = some (.ex n ρ) := rfl
theorem hOut0_rt (s : Sl) : hOut0 (some (.rt s)) = some (.rt s) := rfl
theorem hOut0_nx (ρ : Ev) (h : noEx ρ = true) : hOut0 (some (.nx ρ)) = some (.nx ρ) := by
  show (if noEx ρ = true then _ else _) = _
  rw [if_pos h]
end PL
namespace PL
open PySem PySem.Spec PyProof.Rows L2
abbrev DT' := List (List Int × SV)
def getT (m : DT') (k : List Int) : Option SV := (m.find? fun e => decide (e.1 = k)).map (·.2)
def putT (m : DT') (k : List Int) (x : SV) : DT' := if (m.any fun e => decide (e.1 = k)) = true then m.map (fun e => if e.1 = k then (e.1, x) else e) else m ++ [(k, x)]
theorem inl_inj {a b : List Int} (h : (a.map Sum.inl : List Key) = b.map Sum.inl) : a = b := by
  induction a generalizing b with
  | nil => cases b with
    | nil => rfl
    | cons y b => cases h
  | cons x a ih => cases b with
    | nil => cases h
    | cons y b =>
      rw [List.map_cons, List.map_cons] at h
      injection h with h1 h2
      rw [Sum.inl.inj h1, ih h2]
/-- the ints of a tuple -/
def intsF : List PyData → Option (List Int)
  | [] => some []
  | .int i :: ds => (intsF ds).map (i :: ·)
  | _ :: _ => none
def keyS : Sl → Option (List Int)
  | .val true (.tuple ds) => intsF ds
  | _ => none
theorem vals_ints {L : Addr → HO → Prop} : ∀ {k : List Int} {vs : List V}, RepAll L vs (k.map .int) → vs = (k.map Sum.inl : List Key).map kV
  | [], _, .nil => rfl
  | i :: k, _, .cons r rs => by
    rw [List.map_cons, List.map_cons, ← vals_ints rs]
    congr 1
    exact r.intV
section
variable {X : Cx} {H0 : En} {W : WX} {K : PySem.W.Frag} {B H B' H' : Hp} {σ : L2.St} {mg : Str → Option Value} {ρ : Ev}
variable {e a b c : Expr} {pos apos cpos tpos sp : Pos} {f fi fk fv : EF}
/-- k in d -/
def eDInT (neg : Bool) (i : Nat) (fk : EF) : EF := fun ρ => PL.bz (fk ρ) fun x => match keyS x, ρ[i]? with
  | some k, some (.cel (.dT m)) => some (.ok (.val true (.bool (neg ^^ (getT m k).isSome))))
  | _, _ => none
/-- d[k] = v -/
def sDPutT (i : Nat) (fk fv : EF) : SF := fun ρ => match ρ[i]? with
  | some (.cel (.dT m)) => bSz (fv ρ) ρ fun y => bSz (fk ρ) ρ fun x => match keyS x, (dat y).bind svF with
    | some k, some z => if m.length < 16777216 then some (.nx (ρ.set i (.cel (.dT (putT m k z))))) else none
    | _, _ => none
  | _ => none
end
end PL
namespace PL
open PySem PySem.Spec PyProof.Rows L2
section
variable {X : Cx} {H0 : En} {W : WX} {K : PySem.W.Frag} {B H B' H' : Hp} {σ : L2.St} {mg : Str → Option Value} {ρ : Ev}
variable {e e' : Expr} {es : List Expr} {f' : EF} {fs : List EF} {pos p kpos : Pos} {j k n : Nat} {x kw : Str} {ps ks : List Str} {F : FN} {f : Addr} {fd : FuncData}
theorem RZs.snoc {z : Sl} {v : V} (r : RZ K H0 B H v z) : ∀ {vs : List V} {ss : List Sl}, RZs K H0 B H vs ss → RZs K H0 B H (vs ++ [v]) (ss ++ [z])
  | _, _, .nil => .cons r .nil
  | _, _, .cons q qs => .cons q (RZs.snoc r qs)
def eCallK (F : FN) (fs : List EF) (f : EF) : EF := fun ρ => PL.bzs (evs fs ρ) fun ss => PL.bz (f ρ) fun z => cRes F (ss ++ [z])
end
end PL
namespace PL
open PySem PySem.Spec PyProof.Rows L2
def isLT (d : PyData) : Bool := d.isList || d.isTuple
section
variable {X : Cx} {H0 : En} {W : WX} {e a b c : Expr} {es : List Expr} {f g : EF} {pos p p2 p3 p4 : Pos} {K : PySem.W.Frag} {B H B' H' : Hp} {σ : L2.St} {mg : Str → Option Value} {ρ : Ev} {x : Str} {Q : VK}
def eIsLT (f : EF) : EF := fun ρ => PL.bz (f ρ) fun x => match dat x with
  | some d => some (.ok (.val true (.bool (isLT d))))
  | none => none
/-- a walk over a list or a tuple -/
def iS (f : EF) : IF := fun ρ => match f ρ with
  | some (.ok s) => match frz s with
    | .val _ (.list _) => iL f ρ
    | .val _ (.tuple _) => iM mkTp f ρ
    | _ => none
  | some (.ex n) => some (.ex n)
  | none => none
end
def kCallK (F : FN) (r : Option Ra) (q : Option Rs) : Option Rs := PL.bzs r fun ss => PL.bz q fun z => cRes F (ss ++ [z])
theorem ev_callK (F : FN) (fs : List EF) (f : EF) (ρ : Ev) : eCallK F fs f ρ = kCallK F (evs fs ρ) (f ρ) := rfl
theorem kCallK_ok (F : FN) (ss : List Sl) (s : Sl) : kCallK F (some (.ok ss)) (some (.ok s)) = cRes F (ss ++ [frz s]) := rfl
def kIsLT (o : Option Rs) : Option Rs := PL.bz o fun x => match dat x with
  | some d => some (.ok (.val true (.bool (isLT d))))
  | none => none
theorem ev_isLT (f : EF) (ρ : Ev) : eIsLT f ρ = kIsLT (f ρ) := rfl
theorem kIsLT_val (fr : Bool) (d : PyData) : kIsLT (some (.ok (.val fr d))) = some (.ok (.val true (.bool (isLT d)))) := rfl
theorem isLT_list (d : List PyData) : isLT (.list d) = true := rfl
theorem isLT_tuple (d : List PyData) : isLT (.tuple d) = true := rfl
theorem isLT_int (i : Int) : isLT (.int i) = false := rfl
theorem isLT_none : isLT .none = false := rfl
theorem isLT_bool (b : Bool) : isLT (.bool b) = false := rfl
def kIS (o : Option Rs) : Option Ri := match o with
  | some (.ok s) => match frz s with
    | .val fr (.list ds) => some (.ok (ds.map (mkv fr)))
    | .val fr (.tuple ds) => some (.ok (ds.map (mkv fr)))
    | _ => none
  | some (.ex n) => some (.ex n)
  | none => none
theorem ev_iS (f : EF) (ρ : Ev) : iS f ρ = kIS (f ρ) := by
  unfold iS kIS
  cases r : f ρ with
  | none => rfl
  | some o =>
    cases o with
    | ex n => rfl
    | ok s =>
      dsimp only
      split
      · rename_i h; unfold iL; rw [r]; dsimp only; rw [h]
      · rename_i h; unfold iM; rw [r]; dsimp only; rw [h]; rfl
      · rfl
theorem kIS_list (fr : Bool) (ds : List PyData) : kIS (some (.ok (.val fr (.list ds)))) = some (.ok (ds.map (mkv fr))) := rfl
theorem kIS_tuple (fr : Bool) (ds : List PyData) : kIS (some (.ok (.val fr (.tuple ds)))) = some (.ok (ds.map (mkv fr))) := rfl
end PL
namespace PL
open PySem PySem.Spec PyProof.Rows L2
section
variable {X : Cx} {H0 : En} {W : WX} {e a b c : Expr} {es : List Expr} {f g : EF} {pos np pos' np2 pos2 : Pos} {x x2 : Str}
/-- what a clause makes of an exception n -/
def cOut (tab : Tab) (h : SF) (n : Str) (ρ1 : Ev) (r : Option Out) : Option Out := match tab.lookup n with
  | some true => hOut0 (h ρ1)
  | some false => r
  | none => none
def sTry2 (body : SF) (tab : Tab) (h : SF) (tab2 : Tab) (h2 : SF) : SF := fun ρ => match body ρ with
  | some (.ex n ρ1) => if noEx ρ1 = true then cOut tab h n ρ1 (cOut tab2 h2 n ρ1 (some (.ex n ρ1))) else none
  | r => r
end
def kTry2 (tab : Tab) (h : SF) (tab2 : Tab) (h2 : SF) (o : Option Out) : Option Out := match o with
  | some (.ex n ρ1) => if noEx ρ1 = true then cOut tab h n ρ1 (cOut tab2 h2 n ρ1 (some (.ex n ρ1))) else none
  | r => r
theorem ev_try2 (b : SF) (tab : Tab) (h : SF) (tab2 : Tab) (h2 : SF) (ρ : Ev) : sTry2 b tab h tab2 h2 ρ = kTry2 tab h tab2 h2 (b ρ) := rfl
theorem kTry2_nx (tab : Tab) (h : SF) (tab2 : Tab) (h2 : SF) (ρ : Ev) : kTry2 tab h tab2 h2 (some (.nx ρ)) = some (.nx ρ) := rfl
theorem kTry2_rt (tab : Tab) (h : SF) (tab2 : Tab) (h2 : SF) (s : Sl) : kTry2 tab h tab2 h2 (some (.rt s)) = some (.rt s) := rfl
def kCl (o : Option Bool) (h : SF) (ρ : Ev) (r : Option Out) : Option Out := match o with
  | some true => hOut0 (h ρ)
  | some false => r
  | none => none
theorem kTry2_ex (tab : Tab) (h : SF) (tab2 : Tab) (h2 : SF) (n : Str) (ρ : Ev) (hn : noEx ρ = true) : kTry2 tab h tab2 h2 (some (.ex n ρ)) = kCl (tab.lookup n) h ρ (kCl (tab2.lookup n) h2 ρ (some (.ex n ρ))) := by
  show (if noEx ρ = true then _ else _) = _
  rw [if_pos hn]; rfl
theorem kCl_true (h : SF) (ρ : Ev) (r : Option Out) : kCl (some true) h ρ r = hOut0 (h ρ) := rfl
theorem kCl_false (h : SF) (ρ : Ev) (r : Option Out) : kCl (some false) h ρ r = r := rfl
section
variable {X : Cx} {H0 : En} {W : WX} {K : PySem.W.Frag} {B H B' H' : Hp} {σ : L2.St} {ρ : Ev} {F : Nat → Hp}
def isIntD : PyData → Bool
  | .int _ => true
  | _ => false
def okIt (m : Nat) : PyData → Bool
  | .tuple (.list es :: ws) => es.all isIntD && decide (es.length ≤ m) && ws.all isIntD
  | _ => false
def sForApp (k i : Nat) (M : Nat) : SF := fun ρ => match ρ[i]? with
  | some (.full (.list ds)) => if ds.all (okIt M) = true ∧ ds.length + M < 16777216 ∧ k < ρ.length then some (.nx ((ρ.set i .und).set k .und)) else none
  | _ => none
end
def kFA (k i M : Nat) (ρ : Ev) (o : Option Sl) : Option Out := match o with
  | some (.full (.list ds)) => if ds.all (okIt M) = true ∧ ds.length + M < 16777216 ∧ k < ρ.length then some (.nx ((ρ.set i .und).set k .und)) else none
  | _ => none
theorem ev_forApp (k i M : Nat) (ρ : Ev) : sForApp k i M ρ = kFA k i M ρ ρ[i]? := by unfold sForApp kFA; rfl
theorem kFA_ok (k i M : Nat) (ρ : Ev) (ds : List PyData) (h1 : ds.all (okIt M) = true) (h2 : ds.length + M < 16777216) (h3 : k < ρ.length) : kFA k i M ρ (some (.full (.list ds))) = some (.nx ((ρ.set i .und).set k .und)) := by
  show (if _ then _ else _) = _
  rw [if_pos ⟨h1, h2, h3⟩]
end PL
namespace PL
open PySem PySem.Spec PyProof.Rows L2
end PL
namespace PL
open PySem PySem.Spec PyProof.Rows L2
def tupK : PyData → Option (List Int)
  | .tuple ds => intsF ds
  | _ => none
def keysL : List PyData → Option (List (List Int))
  | [] => some []
  | d :: ds => match tupK d with
    | some k => match keysL ds with
      | some ks => some (k :: ks)
      | none => none
    | none => none
def addK (ks : List (List Int)) (k : List Int) : List (List Int) := if k ∈ ks then ks else ks ++ [k]
def uniK (ks : List (List Int)) : List (List Int) := ks.foldl addK []
def tD (k : List Int) : PyData := .tuple (k.map .int)
section
variable {X : Cx} {H0 : En} {W : WX} {K : PySem.W.Frag} {B H B' H' : Hp} {σ : L2.St} {mg : Str → Option Value} {ρ : Ev}
def kScF (o : Option (Bool × List PyData)) : Option Rs := match o with
  | some (fr, ds) => match keysL ds with
    | some ks => if (uniK ks).length < 4095 then some (.ok (.cel (.sT fr (uniK ks)))) else none
    | none => none
  | none => none
def eSc (g : IF) (own : List Nat) (t : GF) (tt : BF) (elt : EF) : EF := fun ρ => match g ρ with
  | some (.ok its) => kScF (lcL t tt elt (wipeE ρ own) its)
  | some (.ex n) => some (.ex n)
  | none => none
variable {elt tg iter : Expr} {ifs : List Expr} {scope : Scope} {own : List (Str × Nat)} {pos : Pos} {g : IF} {t : GF} {bt : BF} {ef : EF} {gt : TG}
end
def leK (a b : List Int) : Bool := decide (a ≤ b)
section
variable {X : Cx} {H0 : En} {W : WX} {K : PySem.W.Frag} {B H B' H' : Hp} {σ : L2.St} {mg : Str → Option Value} {ρ : Ev}
def sortK (ks : List (List Int)) : Option (List (List Int)) := if ks.all (fun k => !k.isEmpty) = true ∧ ks.length ≤ 16777216 then some (ks.mergeSort leK) else none
theorem readsInts {P : Program} {w : World} {h : Heap} : ∀ {k : List Int} {vs : List Value}, ItemsAre (intKind P w) k vs → ReadsAll h vs (k.map .int) []
  | _, _, .nil => .nil
  | _, _, .cons h1 h2 => by
    obtain ⟨t, rfl⟩ := Value.isInt_shape h1
    exact ReadsAll.cons (as := []) (bs := []) (.int _ t) (readsInts h2)
theorem IsT.reads {P : Program} {w : World} {h : Heap} {k : List Int} {b : Addr} (x : IsT P w h k b) : Reads h (.ref b) (tD k) [] := by
  obtain ⟨o, items, n, ho, hc, hd, hi⟩ := x
  exact .tuple ho hc hd (readsInts hi)
/-- sorted(s), s a set of tuples of ints -/
def kSortK : Option Rs → Option Rs
  | some (.ok (.cel (.sT fr ks))) => match sortK ks with
    | some r => some (.ok (.own fr (r.map tD)))
    | none => none
  | _ => none
def eSortK (f : EF) : EF := fun ρ => kSortK (f ρ)
end
def kSc (r : Option Ri) (own : List Nat) (t : GF) (tt : BF) (elt : EF) (ρ : Ev) : Option Rs := match r with
  | some (.ok its) => kScF (lcL t tt elt (wipeE ρ own) its)
  | some (.ex n) => some (.ex n)
  | none => none
theorem ev_sc (g : IF) (own : List Nat) (t : GF) (tt : BF) (elt : EF) (ρ : Ev) : eSc g own t tt elt ρ = kSc (g ρ) own t tt elt ρ := by unfold eSc kSc; rfl
theorem kSc_ok (its : List Sl) (own : List Nat) (t : GF) (tt : BF) (elt : EF) (ρ : Ev) : kSc (some (.ok its)) own t tt elt ρ = kScF (lcL t tt elt (wipeE ρ own) its) := rfl
theorem ev_sortK (f : EF) (ρ : Ev) : eSortK f ρ = kSortK (f ρ) := rfl
def kSoK (fr : Bool) (o : Option (List (List Int))) : Option Rs := match o with | some r => some (.ok (.own fr (r.map tD))) | none => none
theorem kSortK_ok (fr : Bool) (ks : List (List Int)) : kSortK (some (.ok (.cel (.sT fr ks)))) = kSoK fr (sortK ks) := by
  unfold kSortK kSoK; rfl
theorem kSoK_some (fr : Bool) (r : List (List Int)) : kSoK fr (some r) = some (.ok (.own fr (r.map tD))) := rfl
theorem intsF_ints : ∀ k : List Int, intsF (k.map .int) = some k
  | [] => rfl
  | i :: k => by show (intsF (k.map .int)).map (i :: ·) = _; rw [intsF_ints k]; rfl
end PL
namespace PL
open PySem PySem.Spec PyProof.Rows L2
end PL
namespace PL
open PySem PySem.Spec PyProof.Rows L2
def dcL (t : GF) (tt : BF) (fk fv : EF) (ρ : Ev) : DT' → List Sl → Option DT'
  | m, [] => some m
  | m, s :: ss => match t s ρ with
    | none => none
    | some ρ1 => match tt ρ1 with
      | some (.ok true) => match fk ρ1 with
        | some (.ok x) => match fv ρ1 with
          | some (.ok y) => match keyS (frz x), (dat (frz y)).bind svF with
            | some k, some z => dcL t tt fk fv ρ (putT m k z) ss
            | _, _ => none
          | _ => none
        | _ => none
      | some (.ok false) => dcL t tt fk fv ρ m ss
      | _ => none
def kDcF (o : Option DT') : Option Rs := match o with
  | some m => if m.length < 16777216 then some (.ok (.cel (.dT m))) else none
  | none => none
def eDc (g : IF) (own : List Nat) (t : GF) (tt : BF) (fk fv : EF) : EF := fun ρ => match g ρ with
  | some (.ok its) => kDcF (dcL t tt fk fv (wipeE ρ own) [] its)
  | some (.ex n) => some (.ex n)
  | none => none
def kDc (r : Option Ri) (own : List Nat) (t : GF) (tt : BF) (fk fv : EF) (ρ : Ev) : Option Rs := match r with
  | some (.ok its) => kDcF (dcL t tt fk fv (wipeE ρ own) [] its)
  | some (.ex n) => some (.ex n)
  | none => none
theorem ev_dc (g : IF) (own : List Nat) (t : GF) (tt : BF) (fk fv : EF) (ρ : Ev) : eDc g own t tt fk fv ρ = kDc (g ρ) own t tt fk fv ρ := by unfold eDc kDc; rfl
theorem kDc_ok (its : List Sl) (own : List Nat) (t : GF) (tt : BF) (fk fv : EF) (ρ : Ev) : kDc (some (.ok its)) own t tt fk fv ρ = kDcF (dcL t tt fk fv (wipeE ρ own) [] its) := rfl
end PL
namespace PL
open PySem PySem.Spec PyProof.Rows L2
section
variable {X : Cx} {H0 : En} {W : WX} {K : PySem.W.Frag} {B H B' H' : Hp} {σ : L2.St} {mg : Str → Option Value} {ρ : Ev}
variable {e a b c o : Expr} {pos apos cpos tpos sp p : Pos} {f fi fk fv : EF} {i : Nat}
/-- {e} -/
def kSOne (r : Option Rs) : Option Rs := PL.bz r fun x => match stor x with
  | some (fr, d) => match tupK d with
    | some k => some (.ok (.cel (.sT fr [k])))
    | none => none
  | none => none
def eSOne (f : EF) : EF := fun ρ => kSOne (f ρ)
/-- set() -/
def eSNew : EF := fun _ => some (.ok (.cel (.sT true [])))
/-- x in s, x not in s -/
noncomputable def eSIn (neg : Bool) (i : Nat) (fk : EF) : EF := fun ρ => PL.bz (fk ρ) fun x => match stor x, ρ[i]? with
  | some (_, d), some (.cel (.sT _ ks)) => match tupK d with
    | some k => some (.ok (.val true (.bool (neg ^^ cd (k ∈ ks)))))
    | none => none
  | _, _ => none
/-- len of a cell -/
def lenC : Option Sl → Option Rs
  | some (.cel (.dT m)) => some (.ok (.val true (.int (m.length : Nat))))
  | some (.cel (.dI m)) => some (.ok (.val true (.int (m.length : Nat))))
  | some (.cel (.sT _ ks)) => some (.ok (.val true (.int (ks.length : Nat))))
  | _ => none
def eLenC (i : Nat) : EF := fun ρ => lenC ρ[i]?
/-- sorted(s) -/
def eSortV (i : Nat) : EF := fun ρ => match ρ[i]? with
  | some (.cel (.sT fr ks)) => kSortK (some (.ok (.cel (.sT fr ks))))
  | _ => none
/-- s.add(x) -/
def kSAdd (i : Nat) (ρ : Ev) (o : Option Sl) (r : Option Rs) : Option Out := match o with
  | some (.cel (.sT fr ks)) => bSz r ρ fun x => match stor x with
    | some (f, d) => match tupK d with
      | some k => if ks.length < 4095 then some (.nx (ρ.set i (.cel (.sT (fr && f) (addK ks k))))) else none
      | none => none
    | none => none
  | _ => none
def sSAdd (i : Nat) (f : EF) : SF := fun ρ => kSAdd i ρ ρ[i]? (f ρ)
end
theorem ev_sone (f : EF) (ρ : Ev) : eSOne f ρ = kSOne (f ρ) := rfl
theorem kSOne_ok (fr : Bool) (k : List Int) : kSOne (some (.ok (.val fr (tD k)))) = some (.ok (.cel (.sT fr [k]))) := by
  show (match (match (tupK (tD k)) with | some k => some (Rs.ok (.cel (.sT (fr || false) [k]))) | none => none) with | r => r) = _
  rw [show tupK (tD k) = some k from intsF_ints k, Bool.or_false]
theorem ev_snew (ρ : Ev) : eSNew ρ = some (.ok (.cel (.sT true []))) := rfl
noncomputable def kSIn (neg : Bool) (o : Option Sl) (r : Option Rs) : Option Rs := PL.bz r fun x => match stor x, o with
  | some (_, d), some (.cel (.sT _ ks)) => match tupK d with
    | some k => some (.ok (.val true (.bool (neg ^^ cd (k ∈ ks)))))
    | none => none
  | _, _ => none
theorem ev_sin (neg : Bool) (i : Nat) (fk : EF) (ρ : Ev) : eSIn neg i fk ρ = kSIn neg ρ[i]? (fk ρ) := by unfold eSIn kSIn; rfl
theorem kSIn_ok (neg fr fr' : Bool) (k : List Int) (ks : List (List Int)) : kSIn neg (some (.cel (.sT fr' ks))) (some (.ok (.val fr (tD k)))) = some (.ok (.val true (.bool (neg ^^ cd (k ∈ ks))))) := by
  show (match tupK (tD k) with | some k => some (Rs.ok (.val true (.bool (neg ^^ cd (k ∈ ks))))) | none => none) = _
  rw [show tupK (tD k) = some k from intsF_ints k]
theorem ev_lenC (i : Nat) (ρ : Ev) : eLenC i ρ = lenC ρ[i]? := rfl
theorem lenC_dT (m : DT') : lenC (some (.cel (.dT m))) = some (.ok (.val true (.int (m.length : Nat)))) := rfl
theorem lenC_dI (m : DI) : lenC (some (.cel (.dI m))) = some (.ok (.val true (.int (m.length : Nat)))) := rfl
theorem lenC_sT (fr : Bool) (ks : List (List Int)) : lenC (some (.cel (.sT fr ks))) = some (.ok (.val true (.int (ks.length : Nat)))) := rfl
def kSortV : Option Sl → Option Rs
  | some (.cel (.sT fr ks)) => kSortK (some (.ok (.cel (.sT fr ks))))
  | _ => none
theorem ev_sortV (i : Nat) (ρ : Ev) : eSortV i ρ = kSortV ρ[i]? := by unfold eSortV kSortV; rfl
theorem kSortV_ok (fr : Bool) (ks : List (List Int)) : kSortV (some (.cel (.sT fr ks))) = kSoK fr (sortK ks) := kSortK_ok fr ks
theorem ev_sadd (i : Nat) (f : EF) (ρ : Ev) : sSAdd i f ρ = kSAdd i ρ ρ[i]? (f ρ) := rfl
theorem kSAdd_ok (i : Nat) (ρ : Ev) (fr f : Bool) (ks : List (List Int)) (k : List Int) (h : ks.length < 4095) : kSAdd i ρ (some (.cel (.sT fr ks))) (some (.ok (.val f (tD k)))) = some (.nx (ρ.set i (.cel (.sT (fr && f) (addK ks k))))) := by
  show (match tupK (tD k) with | some k => (if ks.length < 4095 then some (Out.nx (ρ.set i (.cel (.sT (fr && (f || false)) (addK ks k))))) else none) | none => none) = _
  rw [show tupK (tD k) = some k from intsF_ints k, Bool.or_false]
  exact if_pos h
noncomputable def kDInT (neg : Bool) (o : Option Sl) (r : Option Rs) : Option Rs := PL.bz r fun x => match keyS x, o with
  | some k, some (.cel (.dT m)) => some (.ok (.val true (.bool (neg ^^ (getT m k).isSome))))
  | _, _ => none
theorem ev_dinT (neg : Bool) (i : Nat) (fk : EF) (ρ : Ev) : eDInT neg i fk ρ = kDInT neg ρ[i]? (fk ρ) := by unfold eDInT kDInT; rfl
theorem kDInT_ok (neg : Bool) (m : DT') (k : List Int) : kDInT neg (some (.cel (.dT m))) (some (.ok (.val true (tD k)))) = some (.ok (.val true (.bool (neg ^^ (getT m k).isSome)))) := by
  show (match intsF (k.map .int), some (Sl.cel (.dT m)) with | some k, some (.cel (.dT m)) => some (Rs.ok (.val true (.bool (neg ^^ (getT m k).isSome)))) | _, _ => none) = _
  rw [intsF_ints k]
def kDPutT (i : Nat) (ρ : Ev) (o : Option Sl) (r q : Option Rs) : Option Out := match o with
  | some (.cel (.dT m)) => bSz r ρ fun y => bSz q ρ fun x => match keyS x, (dat y).bind svF with
    | some k, some z => if m.length < 16777216 then some (.nx (ρ.set i (.cel (.dT (putT m k z))))) else none
    | _, _ => none
  | _ => none
theorem ev_dputT (i : Nat) (fk fv : EF) (ρ : Ev) : sDPutT i fk fv ρ = kDPutT i ρ ρ[i]? (fv ρ) (fk ρ) := by unfold sDPutT kDPutT; rfl
theorem kDPutT_b (i : Nat) (ρ : Ev) (m : DT') (a : Bool) (k : List Int) (z : Bool) (h : m.length < 16777216) : kDPutT i ρ (some (.cel (.dT m))) (some (.ok (.val a (.bool z)))) (some (.ok (.val true (tD k)))) = some (.nx (ρ.set i (.cel (.dT (putT m k (.b z)))))) := by
  show (match intsF (k.map .int), some (SV.b z) with | some k, some z => (if m.length < 16777216 then some (Out.nx (ρ.set i (.cel (.dT (putT m k z))))) else none) | _, _ => none) = _
  rw [intsF_ints k]
  exact if_pos h
theorem kDPutT_i (i : Nat) (ρ : Ev) (m : DT') (a : Bool) (k : List Int) (z : Int) (h : m.length < 16777216) : kDPutT i ρ (some (.cel (.dT m))) (some (.ok (.val a (.int z)))) (some (.ok (.val true (tD k)))) = some (.nx (ρ.set i (.cel (.dT (putT m k (.i z)))))) := by
  show (match intsF (k.map .int), some (SV.i z) with | some k, some z => (if m.length < 16777216 then some (Out.nx (ρ.set i (.cel (.dT (putT m k z))))) else none) | _, _ => none) = _
  rw [intsF_ints k]
  exact if_pos h
end PL
namespace PL
open PySem PySem.Spec PyProof.Rows L2 RT
section
variable {X : Cx} {H0 : En} {W : WX} {e : Expr} {f : EF} {p p2 pos pos2 : Pos} {te : TE}
variable {mg : Str → Option Value}
noncomputable def fRngL (x : Sl) : Option Sl := match dat x with
  | some (.int i) => if cd (0 ≤ i ∧ i ≤ 16777216) = true then some (.own true ((List.range i.toNat).map fun (k : Nat) => PyData.int (k : Int))) else none
  | _ => none
end
theorem ev_rngL (a : Bool) (n : Nat) (h : n ≤ 16777216) : fRngL (.val a (.int (n : Int))) = some (.own true ((List.range n).map fun (k : Nat) => PyData.int (k : Int))) := by
  show (if cd (0 ≤ (n : Int) ∧ (n : Int) ≤ 16777216) = true then some (Sl.own true ((List.range (n : Int).toNat).map fun (k : Nat) => PyData.int (k : Int))) else none) = _
  rw [if_pos (cd_true ⟨by omega, by omega⟩), Int.toNat_natCast]
end PL
namespace PL
open PySem PySem.Spec PyProof.Rows L2
abbrev DS := List (Str × SV)
def getS (m : DS) (k : Str) : Option SV := (m.find? fun e => decide (e.1 = k)).map (·.2)
def putS (m : DS) (k : Str) (x : SV) : DS := if (m.any fun e => decide (e.1 = k)) = true then m.map (fun e => if e.1 = k then (e.1, x) else e) else m ++ [(k, x)]
section
variable {X : Cx} {H0 : En} {W : WX} {K : PySem.W.Frag} {B H B' H' : Hp} {σ : L2.St} {mg : Str → Option Value} {ρ : Ev}
variable {e a b c : Expr} {pos apos cpos tpos sp : Pos} {f fi fk fv : EF} {m : DS}
/-- {} -/
def eDNewS : EF := fun _ => some (.ok (.cel (.dS [])))
/-- {k: v} -/
def eDOneS (fk fv : EF) : EF := fun ρ => PL.bz (fk ρ) fun x => PL.bz (fv ρ) fun y => match dat x, (dat y).bind svF with
  | some (.str k), some z => some (.ok (.cel (.dS [(k, z)])))
  | _, _ => none
/-- k in d, k not in d -/
def eDInS (neg : Bool) (i : Nat) (fk : EF) : EF := fun ρ => PL.bz (fk ρ) fun x => match dat x, ρ[i]? with
  | some (.str k), some (.cel (.dS m)) => some (.ok (.val true (.bool (neg ^^ (getS m k).isSome))))
  | _, _ => none
/-- d[k] -/
def eDGetS (i : Nat) (fk : EF) : EF := fun ρ => match ρ[i]? with
  | some (.cel (.dS m)) => PL.bz (fk ρ) fun x => match dat x with
    | some (.str k) => match getS m k with
      | some z => some (.ok (.val true z.d))
      | none => none
    | _ => none
  | _ => none
/-- d[k] = v -/
def sDPutS (i : Nat) (fk fv : EF) : SF := fun ρ => match ρ[i]? with
  | some (.cel (.dS m)) => bSz (fv ρ) ρ fun y => bSz (fk ρ) ρ fun x => match dat x, (dat y).bind svF with
    | some (.str k), some z => if m.length < 16777216 then some (.nx (ρ.set i (.cel (.dS (putS m k z))))) else none
    | _, _ => none
  | _ => none
end
theorem ev_dnewS (ρ : Ev) : eDNewS ρ = some (.ok (.cel (.dS []))) := rfl
def kDOneS (a b : Option Rs) : Option Rs := PL.bz a fun x => PL.bz b fun y => match dat x, (dat y).bind svF with
  | some (.str k), some z => some (.ok (.cel (.dS [(k, z)])))
  | _, _ => none
theorem ev_doneS (fk fv : EF) (ρ : Ev) : eDOneS fk fv ρ = kDOneS (fk ρ) (fv ρ) := rfl
theorem kDOneS_i (a b : Bool) (k : Str) (z : Int) : kDOneS (some (.ok (.val a (.str k)))) (some (.ok (.val b (.int z)))) = some (.ok (.cel (.dS [(k, .i z)]))) := rfl
theorem kDOneS_b (a b : Bool) (k : Str) (z : Bool) : kDOneS (some (.ok (.val a (.str k)))) (some (.ok (.val b (.bool z)))) = some (.ok (.cel (.dS [(k, .b z)]))) := rfl
def kDInS (neg : Bool) (o : Option Sl) (r : Option Rs) : Option Rs := PL.bz r fun x => match dat x, o with
  | some (.str k), some (.cel (.dS m)) => some (.ok (.val true (.bool (neg ^^ (getS m k).isSome))))
  | _, _ => none
theorem ev_dinS (neg : Bool) (i : Nat) (fk : EF) (ρ : Ev) : eDInS neg i fk ρ = kDInS neg ρ[i]? (fk ρ) := by unfold eDInS kDInS; rfl
theorem kDInS_ok (neg a : Bool) (m : DS) (k : Str) : kDInS neg (some (.cel (.dS m))) (some (.ok (.val a (.str k)))) = some (.ok (.val true (.bool (neg ^^ (getS m k).isSome)))) := rfl
def kDGetS (o : Option Sl) (r : Option Rs) : Option Rs := match o with
  | some (.cel (.dS m)) => PL.bz r fun x => match dat x with
    | some (.str k) => kDG (getS m k)
    | _ => none
  | _ => none
theorem ev_dgetS (i : Nat) (fk : EF) (ρ : Ev) : eDGetS i fk ρ = kDGetS ρ[i]? (fk ρ) := by unfold eDGetS kDGetS kDG; rfl
theorem kDGetS_ok (m : DS) (a : Bool) (k : Str) : kDGetS (some (.cel (.dS m))) (some (.ok (.val a (.str k)))) = kDG (getS m k) := rfl
def kDPutS (i : Nat) (ρ : Ev) (o : Option Sl) (r q : Option Rs) : Option Out := match o with
  | some (.cel (.dS m)) => bSz r ρ fun y => bSz q ρ fun x => match dat x, (dat y).bind svF with
    | some (.str k), some z => if m.length < 16777216 then some (.nx (ρ.set i (.cel (.dS (putS m k z))))) else none
    | _, _ => none
  | _ => none
theorem ev_dputS (i : Nat) (fk fv : EF) (ρ : Ev) : sDPutS i fk fv ρ = kDPutS i ρ ρ[i]? (fv ρ) (fk ρ) := by unfold sDPutS kDPutS; rfl
theorem kDPutS_i (i : Nat) (ρ : Ev) (m : DS) (a b : Bool) (k : Str) (z : Int) (h : m.length < 16777216) : kDPutS i ρ (some (.cel (.dS m))) (some (.ok (.val a (.int z)))) (some (.ok (.val b (.str k)))) = some (.nx (ρ.set i (.cel (.dS (putS m k (.i z)))))) := by
  show (if m.length < 16777216 then _ else _) = _
  rw [if_pos h]
theorem kDPutS_b (i : Nat) (ρ : Ev) (m : DS) (a b : Bool) (k : Str) (z : Bool) (h : m.length < 16777216) : kDPutS i ρ (some (.cel (.dS m))) (some (.ok (.val a (.bool z)))) (some (.ok (.val b (.str k)))) = some (.nx (ρ.set i (.cel (.dS (putS m k (.b z)))))) := by
  show (if m.length < 16777216 then _ else _) = _
  rw [if_pos h]
end PL
namespace PL
open PySem PySem.Spec PyProof.Rows L2
def nstF : List PyData → Option (List (List PyData))
  | [] => some []
  | .list ds :: es => match nstF es with
    | some dss => some (ds :: dss)
    | none => none
  | _ :: _ => none
noncomputable def gNst (i : Nat) (ρ : Ev) : Option Ev := match ρ[i]? with
  | some (.cel (.nst _)) => some ρ
  | some (.full (.list es)) => match nstF es with
    | some dss => if cd (dss.Nodup ∧ ∀ ds ∈ dss, ds.all PL.scal = true) = true then some (ρ.set i (.cel (.nst dss))) else none
    | none => none
  | _ => none
def itemsL (s : Sl) : Option (List Sl) :=
  match lstR s with
  | some (fr, ds) => some (ds.map (mkv fr))
  | none => none
def gTL (is : List Nat) : GF := fun s ρ => match itemsL s with
  | some ss => gSets is ss ρ
  | none => none
section
variable {X : Cx} {H0 : En} {W : WX} {K : PySem.W.Frag} {B H B' H' T : Hp} {σ : L2.St} {ρ : Ev} {e : Expr} {es : List Expr} {f : EF} {pos : Pos}
def sUnpL (is : List Nat) (f : EF) : SF := fun ρ => bSz (f ρ) ρ fun s => match gTL is s ρ with
  | some ρ' => some (.nx ρ')
  | none => none
end
noncomputable def kNst (i : Nat) (ρ : Ev) (o : Option Sl) : Option Ev := match o with
  | some (.cel (.nst _)) => some ρ
  | some (.full (.list es)) => match nstF es with
    | some dss => if cd (dss.Nodup ∧ ∀ ds ∈ dss, ds.all PL.scal = true) = true then some (ρ.set i (.cel (.nst dss))) else none
    | none => none
  | _ => none
theorem ev_gnst (i : Nat) (ρ : Ev) : gNst i ρ = kNst i ρ ρ[i]? := by unfold gNst kNst; rfl
theorem itemsL_val (fr : Bool) (ds : List PyData) : itemsL (.val fr (.list ds)) = some (ds.map (mkv fr)) := rfl
theorem ev_gTL (is : List Nat) (s : Sl) (ρ : Ev) : gTL is s ρ = kT is ρ (itemsL s) := rfl
def kUnpL (is : List Nat) (ρ : Ev) (o : Option Rs) : Option Out := bSz o ρ fun s => kU ρ (gTL is s ρ)
theorem ev_unpL (is : List Nat) (f : EF) (ρ : Ev) : sUnpL is f ρ = kUnpL is ρ (f ρ) := by
  unfold sUnpL kUnpL kU
  rfl
theorem kUnpL_val (is : List Nat) (ρ : Ev) (fr : Bool) (d : PyData) : kUnpL is ρ (some (.ok (.val fr d))) = kU ρ (gTL is (.val fr d) ρ) := rfl
theorem kUnpL_full (is : List Nat) (ρ : Ev) (d : PyData) : kUnpL is ρ (some (.ok (.full d))) = kU ρ (gTL is (.val true d) ρ) := rfl
theorem kNst_nst (i : Nat) (ρ : Ev) (dss : List (List PyData)) : kNst i ρ (some (.cel (.nst dss))) = some ρ := rfl
end PL
namespace PL
open PySem PySem.Spec PyProof.Rows L2
abbrev Fds := List (Str × PyData)
abbrev FM := Fds → FN
theorem zip_lookup {L : Addr → HO → Prop} {f : Str} : ∀ {fs : Fds} {xs : List V} {d : PyData}, RepAll L xs (fs.map (·.2)) → fs.lookup f = some d → ∃ v, ((fs.map (·.1)).zip xs).lookup f = some v ∧ Rep L v d
  | [], _, _, _, h => by cases h
  | (g, e) :: fs, _, d, .cons (v := v) (vs := vs) r rs, h => by
    rw [List.map_cons, List.zip_cons_cons]
    rw [List.lookup_cons] at h ⊢
    cases hb : (f == g) with
    | true => simp only [hb] at h ⊢; cases h; exact ⟨v, rfl, r⟩
    | false => simp only [hb] at h ⊢; exact zip_lookup rs h
theorem zip_none {f : Str} : ∀ {fs : Fds} {xs : List V}, fs.lookup f = none → ((fs.map (·.1)).zip xs).lookup f = none
  | [], _, _ => rfl
  | (g, e) :: fs, [], _ => rfl
  | (g, e) :: fs, x :: xs, h => by
    rw [List.map_cons, List.zip_cons_cons]
    rw [List.lookup_cons] at h ⊢
    cases hb : (f == g) with
    | true => simp only [hb] at h; cases h
    | false => simp only [hb] at h ⊢; exact zip_none h
theorem putF_new {f : Str} {y : V} : ∀ {fs : Fds} {xs : List V}, fs.length = xs.length → fs.lookup f = none → putF f y ((fs.map (·.1)).zip xs) = (((fs.map (·.1)) ++ [f]).zip (xs ++ [y]))
  | [], [], _, _ => rfl
  | [], _ :: _, h, _ => by cases h
  | _ :: _, [], h, _ => by cases h
  | (g, e) :: fs, x :: xs, hl, h => by
    rw [List.lookup_cons] at h
    split at h
    · cases h
    · rename_i hb
      have hne : ¬ g = f := fun z => by
        subst z
        simp at hb
      have ih := putF_new (f := f) (y := y) (fs := fs) (xs := xs) (by simpa using hl) h
      show (if g = f then _ else (g, x) :: putF f y ((fs.map (·.1)).zip xs)) = _
      rw [if_neg hne, ih]; rfl
/-- an instance at p -/
def objP (K : PySem.W.Frag) (B : Hp) (C p : Addr) (fs : Fds) : Prop := ∃ dx xs, B p = some (.ins C dx ((fs.map (·.1)).zip xs)) ∧ RepAll (LH K B) xs (fs.map (·.2))
/-- a method's promise -/
def spM (K : PySem.W.Frag) (mg : Str → Option Value) (C : Addr) (n : Nat) (F : FM) : Sp := fun vs H Q E => vs.length = n + 1 ∧ ∃ p ws B fs ds r, vs = .ref p :: ws ∧ Same B H ∧ objP K B C p fs ∧ RepAll (LH K B) ws ds ∧ F fs ds = some r ∧ FROk K mg B H Q E r
def entM (n c : Nat) (fs : Fds) (ds : List PyData) : Ev := .cel (.obj false c fs) :: entE (n - 1) ds
def callM (n c : Nat) (F : SF) : FM := fun fs ds => match F (entM n c fs ds) with
  | some (.nx _) => some (.ret true .none)
  | some (.rt s) => frOf s
  | some (.ex m _) => some (.exc m)
  | _ => none
section
variable {P : Program} {w : World} {K : PySem.W.Frag} {mg : Str → Option Value} {base : Heap} {k : Nat} {f : Addr} {fd : FuncData} {ps N : List Str} {B H : Hp}
theorem entry_m {so : Addr → BS.Mem → HO} {cl : Nat → Addr} {p : Addr} {c : Nat} {fs : Fds} {vs : List V} {ds : List PyData} (n : Nat) (e : Same B H) (ob : objP K B (cl c) p fs) (r : RepAll (LH K B) vs ds) (hn : ds.length + 1 ≤ n) (hN : N.length = n) : ER K ⟨H, B, 0, fun _ => False, so, cl, 0⟩ B H (start N (.ref p :: vs)) (entM n c fs ds) := by
  have hl := r.length
  refine ⟨Same.refl _, Same.refl _, fun a h1 h2 => h2, e, ?_, fun _ => emp, ⟨fun i a o q => (nomatch q), fun i a q => absurd rfl q, fun i j a _ q => absurd rfl q, fun i s hs => ?_⟩⟩
  · unfold L2.start entM entE
    simp only [List.length_append, List.length_map, List.length_cons, List.length_replicate]
    omega
  · unfold entM at hs
    cases i with
    | zero =>
      cases hs
      obtain ⟨dx, xs, h1, h2⟩ := ob
      refine ⟨.ref p, ?_, p, dx, xs, rfl, h1, h2⟩
      unfold L2.start
      rfl
    | succ i =>
      rw [List.getElem?_cons_succ] at hs
      unfold entE at hs
      by_cases hi : i < ds.length
      · rw [List.getElem?_append_left (by rw [List.length_map]; exact hi)] at hs
        obtain ⟨d, hd, rfl⟩ := map_at hs
        obtain ⟨v, hv, rv⟩ := r.at hd
        refine ⟨v, ?_, ?_⟩
        · unfold L2.start
          rw [List.map_cons, List.cons_append, List.getElem?_cons_succ, List.getElem?_append_left (by rw [List.length_map, hl]; exact hi), List.getElem?_map, hv]
          rfl
        · show Rep (LF K ⟨H, B, 0, fun _ => False, so, cl, 0⟩ B (scal d)) v d
          cases hsc : scal d with
          | true => exact Rep.scal rv hsc
          | false => exact rv
      · rw [List.getElem?_append_right (by rw [List.length_map]; omega), List.getElem?_replicate] at hs
        split at hs
        · cases hs; trivial
        · cases hs
/-- a method keeps the promise that its body's function makes -/
theorem FG.bodyM {cl : Nat → Addr} {x qual : Str} {st : Stmt} {c : Nat} {F : SF} (Fn : Fun K x qual st f fd) (S : FnScope N ps (defScope st)) (n : Nat) (hn : ps.length = n + 1)
    (hb : ∀ (cdv : Value) (A : Around) (outer : List Env) (s : Shared) (H B : Hp) (E : XK), PySem.W.codeIn K cdv qual = true → Room k (A.deeper (envOfC qual (defScope st) s.heap.objs.size f cdv)) → (A.deeper (envOfC qual (defScope st) s.heap.objs.size f cdv)).guards = some [] →
      PSDs (cxOf (L2N.CX P w) P w K mg base N qual (defScope st) f cdv A outer s H E) ⟨H, B, 0, fun _ => False, BS.SetBO P w, cl, 0⟩ (fun c d _ H => E c d H) (defBody st) F) : FG P w K mg base (k + 1) f fd ps (spM K mg (cl c) n (callM N.length c F)) := by
  refine FG.of Fn S (fun vs H Q E h => by rw [h.1, hn]) fun cdv A outer s H vs Q E hcd hr hg ⟨hl, p, ws, B, fs, ds, r, ev, e, ob, ra, hF, hok⟩ => ?_
  subst ev
  refine ⟨_, (hb cdv A outer s H B E hcd hr hg).pss, B, entM N.length c fs ds, ?_⟩
  have hpl : ps.length ≤ N.length := by have := congrArg List.length S.pre; rw [List.length_take] at this; omega
  have hle : ds.length + 1 ≤ N.length := by rw [← ra.length]; rw [List.length_cons] at hl; omega
  have E0 := entry_m (so := BS.SetBO P w) (cl := cl) (N := N) (c := c) N.length e ob ra hle rfl
  unfold callM at hF
  split at hF
  · rename_i ρ' hr'
    cases hF
    exact ⟨_, E0, hr', fun σ' B' H' E' s' => hok .non H' emp E'.e0 (fun _ _ z => nomatch z) (fun _ z => absurd rfl z) .non⟩
  · rename_i s' hr'
    exact ⟨_, E0, hr', fun v σ' ρ' B' H' T E' s'' t1 t2 rr => ret_ok hF hok E' t1 t2 rr⟩
  · rename_i n ρ' hr'
    cases hF
    exact ⟨_, E0, hr', fun c σ' B' H' hc E' s'' => hok c H' hc E'.e0⟩
  · cases hF
end
section
variable {X : Cx} {H0 : En} {W : WX} {e a b o : Expr} {es : List Expr} {fs : List EF} {pos p apos : Pos} {K : PySem.W.Frag} {B H B' H' : Hp} {σ : L2.St} {mg : Str → Option Value} {ρ : Ev} {k n c i : Nat} {f : Addr} {fd : FuncData} {ps : List Str} {x m : Str} {F : FM} {C : Addr}
theorem CelR.objIn {N : Hp} {v : V} {fr : Bool} {os : Fds} (eB : Same B H) (h : CelR K H0 B N v (.obj fr c os)) : ∃ p dx xs, v = .ref p ∧ H p = some (.ins (H0.cl c) dx ((os.map (·.1)).zip xs)) ∧ RepAll (LF K H0 B fr) xs (os.map (·.2)) := by
  obtain ⟨p, dx, xs, h1, h2, h3⟩ := h
  exact ⟨p, dx, xs, h1, LF.toH eB p _ h2, h3⟩
/-- x.f -/
def eFld (c i : Nat) (f : Str) : EF := fun ρ => match ρ[i]? with
  | some (.cel (.obj fr c' fs)) => if c' = c then (match fs.lookup f with | some d => some (.ok (mkv fr d)) | none => none) else none
  | some (.cel (.obm fr c' fs)) => if c' = c then (match fs.lookup f with | some d => some (.ok (mkv fr d)) | none => none) else none
  | _ => none
theorem pdFld {fn : Str} (ho : PE X o (tVar i)) (hc : Cls X.K (H0.cl c)) (hn : NoAttr X.K (H0.cl c) fn) (hb : attributeBase o fn X.env (eval o X.env) = eval o X.env := by rfl) : PD X H0 W (.Attribute o fn pos) (eFld c i fn) := ⟨peWeak (pe_fld ho hb) fun σ H Q ⟨B, ρ, E, q⟩ => by
  unfold eFld at q
  split at q
  · rename_i fr c' os hi
    split at q
    · rename_i e; subst e
      split at q
      · rename_i d hd
        rcases q with ⟨s, h1, h2⟩ | ⟨m', h1, h2⟩
        · cases h1
          obtain ⟨v, N, e1, sN, cr, -⟩ := E.celAt hi
          obtain ⟨p, dx, xs, rfl, hp, rx⟩ := cr.objIn E.eB
          obtain ⟨u, hu, ru⟩ := zip_lookup rx hd
          exact ⟨.ref p, e1, p, _, dx, _, u, rfl, hp, hc, hn, hu, h2 u B H emp E.nx0 TF.emp (mkv_rep ru)⟩
        · cases h1
      · exact (okNone q).elim
    · exact (okNone q).elim
  · rename_i fr c' os hi
    split at q
    · rename_i e; subst e
      split at q
      · rename_i d hd
        rcases q with ⟨s, h1, h2⟩ | ⟨m', h1, h2⟩
        · cases h1
          obtain ⟨v, N, e1, sN, cr, -⟩ := E.celAt hi
          obtain ⟨dx, xs, rfl, hp, rx⟩ := cr
          obtain ⟨u, hu, ru⟩ := zip_lookup rx hd
          exact ⟨.ref H0.me, e1, H0.me, _, dx, _, u, rfl, sN _ _ hp, hc, hn, hu, h2 u B H emp E.nx0 TF.emp (mkv_rep ru)⟩
        · cases h1
      · exact (okNone q).elim
    · exact (okNone q).elim
  · exact (okNone q).elim⟩
theorem peMethG {sp : Sp} {ta : TE} {t : TA} {pl : Sem Bool} (ho : PE X o ta) (hc : Cls X.K C) (hm : Meth X.K C m f) (Fn : FG X.prog X.w X.K X.mg X.base k f fd ps sp) (hr : Room k X.A) (hgd : X.A.guards = some []) (hb : Binds X.K fd ps []) (tk : L2N.Takes X W) (ha : PA X (e :: es) t)
    (hst : starEach (e :: es) X.env = (false, eval e X.env) :: starEach es X.env := by rfl) (hpl : (backTo pos (starEach es X.env)).any (·.1) = false := by rfl)
    (ht : eval (.Call (.Attribute o m apos) (e :: es) [] pos) X.env = (do
      let ov ← eval o X.env
      standAt apos.atName
      let (f, first) ← holding [ov] (getMethod ov m pl)
      callWith pos f first (backTo pos (starEach (e :: es) X.env)) (backToKw pos (keywordEach [] X.env))) := by rfl) :
    PE X (.Call (.Attribute o m apos) (e :: es) [] pos) (fun σ H Q => ta σ H fun x H1 => ∃ a dx fs, x = .ref a ∧ H1 a = some (.ins C dx fs) ∧ fs.lookup m = none ∧ t σ H1 fun vs H2 => sp (x :: vs) H2 Q (WE W σ)) := by
  refine ⟨fun pins s σ H Q I h => ?_⟩
  refine PySem.W.methodCall_KW (pl := pl) (thn (ho.run pins s σ H _ I h) fun u s1 ⟨x, H1, I1, rx, a, dx, fs, ex, ea, l, q⟩ => ?_) ht
  subst ex
  obtain rfl : u = Value.ref a := rx
  refine getmeth_ok I1 ea hc hm l ?_
  refine PySem.W.callWith_K (first := [.ref a]) (h₀ := X.base) I.ok.mod.kin hm.kp (thn (ha.run pos pins s1 σ H1 _ I1 q) fun us s2 ⟨vs, H2, I2, r, q2⟩ => ⟨I2.kIn, ?_⟩) hst hpl
  exact runFG (us := .ref a :: us) (vs := .ref a :: vs) Fn hr hgd hb tk I2 (.cons rfl r) q2
def mRes (F : FM) (os : Fds) (ss : List Sl) : Option Rs := match dats ss with
  | some ds => match F os ds with
    | some (.ret true d) => some (.ok (if scal d = true then .val true d else .full d))
    | some (.ret false d) => if ss.all isVal = true then some (.ok (.val false d)) else none
    | some (.exc n) => some (.ex n)
    | none => none
  | none => none
theorem callM_out {ss : List Sl} {vs : List V} {Q : VK} {p dx : Addr} {xs : List V} {fr : Bool} {os : Fds} (E : ER K H0 B H σ ρ) (h1 : LF K H0 B fr p (.ins (H0.cl c) dx ((os.map (·.1)).zip xs))) (h2 : RepAll (LF K H0 B fr) xs (os.map (·.2))) (rs : RZs K H0 B H vs ss) (hn : vs.length = n) (q : OK K mg H0 W B H σ (mRes F os ss) Q) : spM K mg (H0.cl c) n F (.ref p :: vs) H Q (WE W σ) := by
  refine ⟨by rw [List.length_cons, hn], p, vs, ?_⟩
  unfold mRes at q
  split at q
  · rename_i ds hd
    split at q
    · rename_i d hF
      refine ⟨H, os, ds, _, rfl, Same.refl _, ⟨dx, xs, LF.toH E.eB p _ h1, h2.mono (LF.toH E.eB)⟩, rs.datsH E.eB hd, hF, fun v H' N s1 s2 s3 r => ?_⟩
      rcases q with ⟨s, h1, h2⟩ | ⟨m, h1, h2⟩
      · cases h1
        have nn : Nx B H B H' := ⟨Same.refl _, E.eB.trans s1, s1, fun _ h _ => h⟩
        split at h2
        · rename_i hs
          exact h2 v B H' emp nn TF.emp (Rep.scal r hs)
        · exact h2 v B H' N nn ⟨s2, fun a ha => ⟨s3 a ha, E.eB.free (s3 a ha)⟩⟩ r
      · cases h1
    · rename_i d hF
      split at q
      · rename_i hv
        refine ⟨B, os, ds, _, rfl, E.eB, ⟨dx, xs, LF.toH (Same.refl _) p _ h1, h2.mono (LF.toH (Same.refl _))⟩, rs.datsB hv hd, hF, fun v B' H' nn r => ?_⟩
        rcases q with ⟨s, h1, h2⟩ | ⟨m, h1, h2⟩
        · cases h1
          exact h2 v B' H' emp nn TF.emp r
        · cases h1
      · exact (okNone q).elim
    · rename_i m hF
      refine ⟨H, os, ds, _, rfl, Same.refl _, ⟨dx, xs, LF.toH E.eB p _ h1, h2.mono (LF.toH E.eB)⟩, rs.datsH E.eB hd, hF, fun c H' hc s1 => ?_⟩
      rcases q with ⟨s, h1, h2⟩ | ⟨m', h1, h2⟩
      · cases h1
      · cases h1
        exact h2 c B H' hc ⟨Same.refl _, E.eB.trans s1, s1, fun _ h _ => h⟩
    · exact (okNone q).elim
  · exact (okNone q).elim
/-- x.m(..) -/
def eMeth (c i : Nat) (m : Str) (F : FM) (fs : List EF) : EF := fun ρ => match ρ[i]? with
  | some (.cel (.obj fr c' os)) => if c' = c ∧ os.lookup m = none then bzs (evs fs ρ) fun ss => mRes F os ss else none
  | _ => none
end
end PL
namespace PL
open PySem PySem.Spec PyProof.Rows L2
section
variable {X : Cx} {H0 : En} {W : WX} {e a b o : Expr} {es : List Expr} {fs : List EF} {f : EF} {pos p apos pos' : Pos} {K : PySem.W.Frag} {B H B' H' : Hp} {σ : L2.St} {mg : Str → Option Value} {ρ : Ev} {k n c i : Nat} {fd : FuncData} {ps : List Str} {x m fn : Str} {C : Addr}
/-- the slot of the made one, with a field more -/
def putS' (fr : Bool) (c : Nat) (fs : Fds) (f : Str) (f' : Bool) (d : PyData) : Sl := .cel (.obm (fr && f') c (fs ++ [(f, d)]))
theorem ER.setFld {fr f' : Bool} {os : Fds} {y : V} {d : PyData} {dx : Addr} {xs : List V} (E : ER K H0 B H σ ρ) (hi : ρ[i]? = some (.cel (.obm fr c os))) (hv : σ[i]? = some (some (.ref H0.me))) (hp : H H0.me = some (.ins (H0.cl c) dx ((os.map (·.1)).zip xs))) (hxs : RepAll (LF K H0 B fr) xs (os.map (·.2))) (hn : os.lookup fn = none) (ry : Rep (LF K H0 B f') y d) :
    ER K H0 B (upd H H0.me (.ins (H0.cl c) dx (putF fn y ((os.map (·.1)).zip xs)))) σ (ρ.set i (putS' fr c os fn f' d)) := by
  have lx := hxs.length
  rw [List.length_map] at lx
  refine E.wrC hi hv (fun N s cr => ?_) fun N s cr => ?_
  · obtain ⟨dx', xs', h1, h2, h3⟩ := cr
    rw [h2]; simp
  · obtain ⟨dx', xs', h1, h2, h3⟩ := cr
    refine ⟨dx, xs ++ [y], rfl, ?_, ?_⟩
    · rw [upd_same, putF_new lx.symm hn, List.map_append]; rfl
    · rw [List.map_append]
      exact (hxs.mono LF.and1).append (.cons (ry.mono LF.and2) .nil)
/-- self.f = e -/
def sFldS (c i : Nat) (fn : Str) (f : EF) : SF := fun ρ => bSz (f ρ) ρ fun s => match stor s with
  | some (f', d) => match ρ[i]? with
    | some (.cel (.obm fr c' os)) => if c' = c ∧ os.lookup fn = none ∧ os.length < 900 then some (.nx (ρ.set i (putS' fr c os fn f' d))) else none
    | _ => none
  | none => none
theorem psdFldS (ho : PE X o (tVar i)) (hv : PD X H0 W e f) (hc : Cls X.K (H0.cl c)) (hn : NoAttr X.K (H0.cl c) fn) (hs : swapsWith e (some (.Attribute o fn pos')) pos.line X.env = pure false := by rfl) : PSD X H0 W (.Assign [.Attribute o fn pos'] e pos) (sFldS c i fn f) :=
  ⟨psWeak (ps_fld ho hv.z hs) fun D σ H ⟨B, ρ, oo, E, h, ho⟩ => ⟨B, ρ, E, bSz_ok E h ho fun s v B' H' n r q ho' => by
  split at q
  · rename_i f' d hst
    split at q
    · rename_i fr c' os hi
      split at q
      · rename_i hcc
        obtain ⟨rfl, hl, hz⟩ := hcc
        cases q
        have E1 := E.nx n
        obtain ⟨u, N, e1, sN, cr, -⟩ := E1.celAt hi
        obtain ⟨dx, xs, rfl, h1, h2⟩ := cr
        have lx := h2.length
        rw [List.length_map] at lx
        exact ⟨.ref H0.me, e1, H0.me, _, dx, _, rfl, sN _ _ h1, hc, hn, by rw [List.length_zip, List.length_map, lx]; omega, ho' σ B' _ (E1.setFld hi e1 (sN _ _ h1) h2 hl (r.stor hst)) (Same.refl _)⟩
      · cases q
    · cases q
  · cases q⟩⟩
abbrev Tg := List (Sum Nat Str)
def gFs (c i : Nat) : Tg → List Sl → Ev → Option Ev
  | [], [], ρ => some ρ
  | .inl j :: is, s :: ss, ρ => if stb s = true ∧ j ≠ i then gFs c i is ss (ρ.set j s) else none
  | .inr fn :: is, s :: ss, ρ => match stor s with
    | some (f', d) => match ρ[i]? with
      | some (.cel (.obm fr c' os)) => if c' = c ∧ os.lookup fn = none ∧ os.length < 900 then gFs c i is ss (ρ.set i (putS' fr c os fn f' d)) else none
      | _ => none
    | none => none
  | _, _, _ => none
def tGFs (K : PySem.W.Frag) (H0 : En) (c i : Nat) (is : Tg) : TGs := fun vs σ H Q => ∃ B ρ ss ρ', ER K H0 B H σ ρ ∧ RZs K H0 B H vs ss ∧ ss.all isVal = true ∧ gFs c i is ss ρ = some ρ' ∧ ∀ σ' H', ER K H0 B H' σ' ρ' → Q σ' H'
theorem RZs.valH : ∀ {vs : List V} {ss : List Sl}, RZs K H0 B H vs ss → ss.all isVal = true → RZs K H0 B H' vs ss
  | _, _, .nil, _ => .nil
  | _, _, .cons (s := s) r rs, h => by
    rw [List.all_cons, Bool.and_eq_true] at h
    cases s <;> first | exact .cons r (rs.valH h.2) | cases h.1
structure PGFs (X : Cx) (H0 : En) (c i : Nat) (es : List Expr) (is : Tg) : Prop where
  pgs : PGs X es (tGFs X.K H0 c i is)
theorem pgfNil : PGFs X H0 c i [] [] := ⟨⟨fun pins s σ H vs us Q I r ⟨B, ρ, ss, ρ', E, rz, ha, h, q⟩ => by
  cases ss with
  | cons _ _ => cases h
  | nil => cases h; cases rz; exact pgs_nil.run pins s σ H [] us Q I r ⟨rfl, q σ H E⟩⟩⟩
theorem pgfName {j : Nat} {is : Tg} (hN : X.N.Nodup) (hi : X.N[j]? = some x) (hx : Loc X.env.scope x) (h2 : PGFs X H0 c i es is) (hf : X.fn x = true ∨ X.env.scope.names.lookup x = some .local := by first | exact .inl rfl | exact .inr rfl | assumption)
    (hs : (assignEach (.Name x pos :: es) X.env).map (·.2) = assign (.Name x pos) X.env :: (assignEach es X.env).map (·.2) := by rfl) : PGFs X H0 c i (.Name x pos :: es) (.inl j :: is) := ⟨⟨fun pins s σ H vs us Q I r ⟨B, ρ, ss, ρ', E, rz, ha, h, q⟩ => by
  cases rz with
  | nil => cases h
  | @cons v vs' s1 ss' r1 rs =>
    rw [List.all_cons, Bool.and_eq_true] at ha
    unfold gFs at h
    split at h
    · rename_i hs1
      exact (pgs_cons (pg_name hN hi hx hf) h2.pgs hs).run pins s σ H _ us Q I r ⟨v, vs', rfl, B, _, ss', ρ', E.set E.nx0 TF.emp r1.rr hs1.1, rs, ha.2, h, q⟩
    · cases h⟩⟩
/-- o.f = .., as a target -/
def gFldT (K : PySem.W.Frag) (ta : TE) (fn : Str) : TG := fun y σ H Q => ta σ H fun x H2 => ∃ a C dx fs, x = .ref a ∧ H2 a = some (.ins C dx fs) ∧ Cls K C ∧ NoAttr K C fn ∧ fs.length < 1000 ∧ Q σ (upd H2 a (.ins C dx (putF fn y fs)))
theorem pg_attr {ta : TE} (ho : PE X o ta) : PG X (.Attribute o fn pos) (gFldT X.K ta fn) := by
  refine ⟨fun pins s σ H v u Q I r h => ?_⟩
  rw [PySem.assign_Attribute]
  refine wpAny_bind (wpAny_holding (thn (ho.run pins s σ H _ I h) fun ov s1 ⟨x, H1, I1, r1, a, C, dx, fs, ex, ea, c, n, l, q⟩ => ?_))
  subst ex
  obtain rfl : ov = Value.ref a := r1
  refine wpAny_bind (wpAny_standAt (wpAny_bind (wpAny_holding (setattr_ok I1 ea c n l r fun s3 I3 => ?_))))
  exact wpAny_release ⟨σ, _, I3, q⟩
theorem pgfFld {is : Tg} (ho : PE X o (tVar i)) (hc : Cls X.K (H0.cl c)) (hn : NoAttr X.K (H0.cl c) fn) (h2 : PGFs X H0 c i es is)
    (hs : (assignEach (.Attribute o fn pos :: es) X.env).map (·.2) = assign (.Attribute o fn pos) X.env :: (assignEach es X.env).map (·.2) := by rfl) : PGFs X H0 c i (.Attribute o fn pos :: es) (.inr fn :: is) := ⟨⟨fun pins s σ H vs us Q I r ⟨B, ρ, ss, ρ', E, rz, ha, h, q⟩ => by
  cases rz with
  | nil => cases h
  | @cons v vs' s1 ss' r1 rs =>
    rw [List.all_cons, Bool.and_eq_true] at ha
    unfold gFs at h
    split at h
    · rename_i f' d hst
      split at h
      · rename_i fr c' os hi
        split at h
        · rename_i hcc
          obtain ⟨rfl, hl, hz⟩ := hcc
          obtain ⟨u, N, e1, sN, cr, -⟩ := E.celAt hi
          obtain ⟨dx, xs, rfl, g1, g2⟩ := cr
          have lx := g2.length
          rw [List.length_map] at lx
          exact (pgs_cons (pg_attr ho) h2.pgs hs).run pins s σ H _ us Q I r ⟨v, vs', rfl, .ref H0.me, e1, H0.me, _, dx, _, rfl, sN _ _ g1, hc, hn, by rw [List.length_zip, List.length_map, lx]; omega, B, _, ss', ρ', E.setFld hi e1 (sN _ _ g1) g2 hl (r1.stor hst), rs.valH ha.2, ha.2, h, q⟩
        · cases h
      · cases h
    · cases h⟩⟩
def sUnpF (c i : Nat) (is : Tg) (f : EF) : SF := fun ρ => bSz (f ρ) ρ fun s => match itemsT s with
  | some ss => match gFs c i is ss ρ with
    | some ρ' => if ss.length = is.length then some (.nx ρ') else none
    | none => none
  | none => none
theorem all_mkv (fr : Bool) : ∀ ds : List PyData, (ds.map (mkv fr)).all isVal = true
  | [] => rfl
  | d :: ds => by rw [List.map_cons, List.all_cons, all_mkv fr ds]; rfl
theorem psdUnpF {is : Tg} {kk : Nat} (he : PD X H0 W e f) (hc : X.calm = true) (h : PGFs X H0 c i es is) (hn : (assignEach es X.env).length = is.length := by rfl) (hst : (assignEach es X.env).findIdx? (·.1) = none := by rfl)
    (hs : swapsWithSole [.Tuple es kk pos'] e pos.line X.env = pure false := by rfl) (hw : swappedStores [.Tuple es kk pos'] e X.env = pure none := by rfl) (h1 : (assignEach [.Tuple es kk pos'] X.env).map (·.2) = [assign (.Tuple es kk pos') X.env] := by rfl) :
    PSD X H0 W (.Assign [.Tuple es kk pos'] e pos) (sUnpF c i is f) := ⟨psWeak (ps_asg he.z (pg_tup hc h.pgs hn hst) hs hw h1) fun D σ H ⟨B, ρ, oo, E, hh, ho⟩ => ⟨B, ρ, E, bSz_ok E hh ho fun s v B' H' n r q ho' => by
  split at q
  · rename_i ss hss
    split at q
    · rename_i ρ' hr
      split at q
      · rename_i hl
        cases q
        unfold itemsT at hss
        split at hss
        · rename_i fr ds hd
          cases hss
          obtain ⟨p, vs, rfl, s1, a1⟩ := r.tup (E.nx n).eB hd
          rw [List.length_map] at hl
          exact ⟨p, vs, rfl, s1, by rw [a1.length, hl], B', ρ, _, ρ', E.nx n, rzs_map a1, all_mkv fr ds, hr, fun σ' H2 E2 => ho' σ' B' H2 E2 (Same.refl _)⟩
        · cases hss
      · cases q
    · cases q
  · cases q⟩⟩
end
end PL
namespace PL
open PySem PySem.Spec PyProof.Rows L2
inductive IR where
  | ok (fs : Fds)
  | exc (n : Str)
abbrev FI := List PyData → Option IR
def hminus (H : Hp) (p : Addr) : Hp := fun a => if a = p then none else H a
def IOk (K : PySem.W.Frag) (mg : Str → Option Value) (C : Addr) (B Hm : Hp) (p : Addr) (Q : VK) (E : XK) : IR → Prop
  | .ok fs => ∀ B' H' dx xs, Nx B Hm B' H' → H' p = some (.ins C dx ((fs.map (·.1)).zip xs)) → B' p = none → RepAll (LH K B') xs (fs.map (·.2)) → Q .non H'
  | .exc n => ∀ c H', mg n = some c → Same Hm H' → E c none H'
/-- what __init__ promises -/
def spI (K : PySem.W.Frag) (mg : Str → Option Value) (C : Addr) (n : Nat) (F : FI) : Sp := fun vs H Q E => vs.length = n + 1 ∧ ∃ p dx ws B ds r, vs = .ref p :: ws ∧ H p = some (.ins C dx []) ∧ B p = none ∧ Same B (hminus H p) ∧ RepAll (LH K B) ws ds ∧ F ds = some r ∧ IOk K mg C B (hminus H p) p Q E r
def entI (n c : Nat) (ds : List PyData) : Ev := .cel (.obm true c []) :: entE (n - 1) ds
def selfOf (c : Nat) (ρ : Ev) : Option IR := match (ρ[0]? : Option Sl) with
  | some (.cel (.obm _ c' fs)) => if c' = c then some (.ok fs) else none
  | _ => none
def callI (n c : Nat) (F : SF) : FI := fun ds => match F (entI n c ds) with
  | some (.nx ρ) => selfOf c ρ
  | some (.ex m _) => some (.exc m)
  | _ => none
section
variable {P : Program} {w : World} {K : PySem.W.Frag} {mg : Str → Option Value} {base : Heap} {k : Nat} {f : Addr} {fd : FuncData} {ps N : List Str} {B H : Hp}
theorem minus_same (H : Hp) (p : Addr) : Same (hminus H p) H := fun a o q => by
  unfold hminus at q
  split at q
  · cases q
  · exact q
theorem minus_p (H : Hp) (p : Addr) : hminus H p p = none := if_pos rfl
theorem entry_i {so : Addr → BS.Mem → HO} {cl : Nat → Addr} {p dx : Addr} {c : Nat} {vs : List V} {ds : List PyData} (n : Nat) (e : Same B (hminus H p)) (hp : H p = some (.ins (cl c) dx [])) (hB : B p = none) (r : RepAll (LH K B) vs ds) (hn : ds.length + 1 ≤ n) (hN : N.length = n) : ER K ⟨hminus H p, B, 0, fun _ => False, so, cl, p⟩ B H (start N (.ref p :: vs)) (entI n c ds) := by
  have hl := r.length
  refine ⟨minus_same H p, Same.refl _, fun a h1 h2 => h2, e.trans (minus_same H p), ?_, fun i => if i = 0 then (fun a => if a = p then H p else none) else emp, ⟨fun i a o q => ?_, fun i a q => ?_, fun i j a hij q => ?_, fun i s hs => ?_⟩⟩
  · unfold L2.start entI entE
    simp only [List.length_append, List.length_map, List.length_cons, List.length_replicate]
    omega
  · dsimp only at q
    split at q
    · dsimp only at q
      split at q
      · rename_i h; rw [h]; exact q
      · cases q
    · cases q
  · dsimp only at q
    split at q
    · dsimp only at q
      split at q
      · rename_i h; rw [h]; exact ⟨hB, minus_p H p⟩
      · exact absurd rfl q
    · exact absurd rfl q
  · dsimp only at q ⊢
    split at q
    · rename_i h0
      rw [if_neg (fun z => hij (h0.trans z.symm))]
      rfl
    · exact absurd rfl q
  · unfold entI at hs
    cases i with
    | zero =>
      cases hs
      refine ⟨.ref p, ?_, dx, [], rfl, ?_, .nil⟩
      · unfold L2.start; rfl
      · show (if p = p then H p else none) = _
        rw [if_pos rfl, hp]; rfl
    | succ i =>
      rw [List.getElem?_cons_succ] at hs
      unfold entE at hs
      by_cases hi : i < ds.length
      · rw [List.getElem?_append_left (by rw [List.length_map]; exact hi)] at hs
        obtain ⟨d, hd, rfl⟩ := map_at hs
        obtain ⟨v, hv, rv⟩ := r.at hd
        refine ⟨v, ?_, ?_⟩
        · unfold L2.start
          rw [List.map_cons, List.cons_append, List.getElem?_cons_succ, List.getElem?_append_left (by rw [List.length_map, hl]; exact hi), List.getElem?_map, hv]
          rfl
        · show Rep (LF K ⟨hminus H p, B, 0, fun _ => False, so, cl, p⟩ B (scal d)) v d
          cases hsc : scal d with
          | true => exact Rep.scal rv hsc
          | false => exact rv
      · rw [List.getElem?_append_right (by rw [List.length_map]; omega), List.getElem?_replicate] at hs
        split at hs
        · cases hs; trivial
        · cases hs
/-- __init__ keeps the promise that its body's function makes -/
theorem FG.bodyI {cl : Nat → Addr} {x qual : Str} {st : Stmt} {c : Nat} {F : SF} (Fn : Fun K x qual st f fd) (S : FnScope N ps (defScope st)) (n : Nat) (hn : ps.length = n + 1)
    (hb : ∀ (cdv : Value) (A : Around) (outer : List Env) (s : Shared) (H B : Hp) (E : XK) (p : Addr), PySem.W.codeIn K cdv qual = true → Room k (A.deeper (envOfC qual (defScope st) s.heap.objs.size f cdv)) → (A.deeper (envOfC qual (defScope st) s.heap.objs.size f cdv)).guards = some [] →
      PSDs (cxOf (L2N.CX P w) P w K mg base N qual (defScope st) f cdv A outer s H E) ⟨hminus H p, B, 0, fun _ => False, BS.SetBO P w, cl, p⟩ (fun c d _ H => E c d H) (defBody st) F) : FG P w K mg base (k + 1) f fd ps (spI K mg (cl c) n (callI N.length c F)) := by
  refine FG.of Fn S (fun vs H Q E h => by rw [h.1, hn]) fun cdv A outer s H vs Q E hcd hr hg ⟨hl, p, dx, ws, B, ds, r, ev, hp, hB, e, ra, hF, hok⟩ => ?_
  subst ev
  refine ⟨_, (hb cdv A outer s H B E p hcd hr hg).pss, B, entI N.length c ds, ?_⟩
  have hpl : ps.length ≤ N.length := by have := congrArg List.length S.pre; rw [List.length_take] at this; omega
  have hle : ds.length + 1 ≤ N.length := by rw [← ra.length]; rw [List.length_cons] at hl; omega
  have E0 := entry_i (so := BS.SetBO P w) (cl := cl) (N := N) (c := c) N.length e hp hB ra hle rfl
  unfold callI at hF
  split at hF
  · rename_i ρ' hr'
    refine ⟨_, E0, hr', fun σ' B' H' E' s' => ?_⟩
    unfold selfOf at hF
    split at hF
    · rename_i fr c' fs hs
      split at hF
      · rename_i hc; subst hc
        cases hF
        obtain ⟨v, N', e1, sN, cr, nB⟩ := E'.celAt hs
        obtain ⟨dx', xs, rfl, g1, g2⟩ := cr
        have g1 : N' p = some (.ins (cl c') dx' ((fs.map (·.1)).zip xs)) := g1
        exact hok B' H' dx' xs ⟨E'.b0, E'.eB, E'.e0, fun a h1 h2 => E'.n0 a h2 h1⟩ (sN _ _ g1) (nB p (by rw [g1]; simp)) (g2.mono (LF.toH (Same.refl _)))
      · cases hF
    · cases hF
  · rename_i m ρ' hr'
    cases hF
    exact ⟨_, E0, hr', fun c' σ' B' H' hc E' s'' => hok c' H' hc E'.e0⟩
  · cases hF
end
section
variable {X : Cx} {H0 : En} {W : WX} {e a b o : Expr} {es : List Expr} {fs : List EF} {f : Addr} {pos p apos pos' : Pos} {K : PySem.W.Frag} {B H B' H' : Hp} {σ : L2.St} {mg : Str → Option Value} {ρ : Ev} {k n c i : Nat} {fd : FuncData} {ps : List Str} {x m fn : Str} {C : Addr} {F : FI}
theorem peMakeG {sp : Sp} {t : TA} (M : Mk X.K C f) (Fn : FG X.prog X.w X.K X.mg X.base k f fd ps sp) (hr : Room (k + 1) X.A) (hgd : X.A.guards = some []) (hm : X.mg x = some (.ref C)) (hb : Binds X.K fd ps []) (tk : L2N.Takes X W) (ha : PA X (e :: es) t) (hg : Gl X x)
    (hdb : (x == ("__debug__" : Str)) = false := by decide) (he : starEach (e :: es) X.env = (false, eval e X.env) :: starEach es X.env := by rfl) (hpl : (backTo pos (starEach es X.env)).any (·.1) = false := by rfl) :
    PE X (.Call (.Name x p) (e :: es) [] pos) (fun σ H Q => t σ H fun vs H1 => ∀ q dx, H1 q = none → H1 dx = none → dx ≠ q → sp (.ref q :: vs) (upd (upd H1 dx (.own q)) q (.ins C dx [])) (fun v H2 => v = .non ∧ Q (.ref q) H2) (WE W σ)) := by
  refine ⟨fun pins s σ H Q I h => ?_⟩
  refine wpAny_Call_Name_kw (ld_glob I hg hm ?_ hdb)
  refine PySem.W.callWith_K (h₀ := X.base) I.ok.mod.kin M.kp (thn (ha.run pos pins s σ H _ I h) fun us s1 ⟨vs, H1, I1, r, q⟩ => ⟨I1.kIn, ?_⟩) he hpl
  have hq := q (s1.heap.objs.size + 1) s1.heap.objs.size (I1.hok.fresh (Nat.le_succ _)) (I1.hok.fresh (Nat.le_refl _)) (Nat.ne_of_lt (Nat.lt_succ_self _))
  have I2 := Inv.made (C := C) I1
  have r2 : Vals (V.ref (s1.heap.objs.size + 1) :: vs) (Value.ref (s1.heap.objs.size + 1) :: us) := .cons rfl r
  have hl : (Value.ref (s1.heap.objs.size + 1) :: us).length = ps.length := r2.length.symm.trans (Fn.len _ _ _ _ hq)
  have bnd := hb _ (Value.ref (s1.heap.objs.size + 1) :: us) I2.kIn (by simpa using hl)
  rw [List.append_nil] at bnd
  refine wpAny_call (make_map (f := f) I1.kIn M.makes M.init (beq_iff_eq.mp M.fn) (codeAny_mono (Fn.go _ X.stack _ _ ⟨Value.ref (s1.heap.objs.size + 1) :: us, []⟩ (Value.ref (s1.heap.objs.size + 1) :: us) _ _ (WE W σ) (hr.make C us []) (by exact hgd) (I2.env0.make C us []) bnd r2 hq) fun res s' hq' => ?_))
  match res, hq' with
  | .ok (.ret u), hq' =>
    obtain ⟨v, H', I3, rv, ev, q3⟩ := I2.after hq'
    subst ev
    exact ⟨rv, ⟨V.ref (s1.heap.objs.size + 1), H', I3, rfl, q3⟩⟩
  | .ok .next, hq' => exact hq'.elim
  | .ok .brk, hq' => exact hq'.elim
  | .ok .cont, hq' => exact hq'.elim
  | .error e, hq' => exact L2N.passAt tk σ pins _ _ e s' I2 hq'
/-- C(..) -/
def iRes (c : Nat) (F : FI) (ss : List Sl) : Option Rs := if ss.all isVal = true then (match dats ss with
  | some ds => match F ds with
    | some (.ok os) => some (.ok (.cel (.obj false c os)))
    | some (.exc n) => some (.ex n)
    | none => none
  | none => none) else none
def eMake (c : Nat) (F : FI) (fs : List EF) : EF := fun ρ => bzs (evs fs ρ) fun ss => iRes c F ss
theorem make_out {ss : List Sl} {vs : List V} {Q : VK} (E : ER K H0 B H σ ρ) (rs : RZs K H0 B H vs ss) (hn : vs.length = n) (q : OK K mg H0 W B H σ (iRes c F ss) Q) : ∀ p dx, H p = none → H dx = none → dx ≠ p → spI K mg (H0.cl c) n F (.ref p :: vs) (upd (upd H dx (.own p)) p (.ins (H0.cl c) dx [])) (fun v H2 => v = .non ∧ Q (.ref p) H2) (WE W σ) := by
  intro p dx hp hd hne
  refine ⟨by rw [List.length_cons, hn], p, dx, vs, B, ?_⟩
  have hBp : B p = none := E.eB.free hp
  have hm : hminus (upd (upd H dx (.own p)) p (.ins (H0.cl c) dx [])) p = upd H dx (.own p) := funext fun a => by
    unfold hminus
    by_cases ha : a = p
    · subst ha; rw [if_pos rfl, upd_ne (fun z => hne z.symm), hp]
    · rw [if_neg ha, upd_ne ha]
  have nm : Same H (upd H dx (.own p)) := same_upd hd
  rw [hm]
  unfold iRes at q
  split at q
  · rename_i hv
    split at q
    · rename_i ds hds
      split at q
      · rename_i os hF
        refine ⟨ds, _, rfl, upd_same, hBp, E.eB.trans nm, rs.datsB hv hds, hF, fun B' H' dx' xs nx h1 h2 h3 => ⟨rfl, ?_⟩⟩
        rcases q with ⟨s, g1, g2⟩ | ⟨m, g1, g2⟩
        · cases g1
          have hr : ∀ Z : Hp, Z p = some (.ins (H0.cl c) dx' ((os.map (·.1)).zip xs)) → RepAll (LH K Z) xs (os.map (·.2)) → RR K H0 Z H' emp (.ref p) (.cel (.obj false c os)) := fun Z z1 z2 => ⟨p, dx', xs, rfl, z1, z2⟩
          have s1 : Same B' (upd B' p (.ins (H0.cl c) dx' ((os.map (·.1)).zip xs))) := same_upd h2
          refine g2 (.ref p) (upd B' p (.ins (H0.cl c) dx' ((os.map (·.1)).zip xs))) H' emp ⟨nx.b.trans s1, same_upd2 nx.bh h1, nm.trans nx.h, fun a q1 q2 => ?_⟩ TF.emp (hr _ upd_same (h3.mono (LH.mono s1)))
          rw [upd_ne (fun z => by subst z; exact q2 hp)]
          exact nx.no a q1 (by rw [upd_ne (fun z => by subst z; exact q2 hd)]; exact q2)
        · cases g1
      · rename_i m hF
        refine ⟨ds, _, rfl, upd_same, hBp, E.eB.trans nm, rs.datsB hv hds, hF, fun c H' hc s1 => ?_⟩
        rcases q with ⟨s, g1, g2⟩ | ⟨m', g1, g2⟩
        · cases g1
        · cases g1
          exact g2 c B H' hc ⟨Same.refl _, (E.eB.trans nm).trans s1, nm.trans s1, fun _ h _ => h⟩
      · exact (okNone q).elim
    · exact (okNone q).elim
  · exact (okNone q).elim
theorem pdMake (M : Mk X.K (H0.cl c) f) (Fn : FG X.prog X.w X.K X.mg X.base k f fd ps (spI X.K X.mg (H0.cl c) n F)) (hr : Room (k + 1) X.A) (hgd : X.A.guards = some []) (hm : X.mg x = some (.ref (H0.cl c))) (hb : Binds X.K fd ps []) (tk : L2N.Takes X W) (ha : PDs X H0 W (e :: es) fs) (hn : fs.length = n := by rfl) (hg : Gl X x := by rfl)
    (hdb : (x == ("__debug__" : Str)) = false := by decide) (he : starEach (e :: es) X.env = (false, eval e X.env) :: starEach es X.env := by rfl) (hpl : (backTo pos (starEach es X.env)).any (·.1) = false := by rfl) :
    PD X H0 W (.Call (.Name x p) (e :: es) [] pos) (eMake c F fs) := ⟨peWeak (peMakeG M Fn hr hgd hm hb tk ha.pa hg hdb he hpl) fun σ H Q ⟨B, ρ, E, q⟩ => ⟨B, ρ, E, by
  have q' : OK X.K X.mg H0 W B H σ (bzs (evs fs ρ) fun ss => iRes c F ss) Q := q
  cases r : evs fs ρ with
  | none => rw [r] at q'; exact (okNone q').elim
  | some oo =>
    rw [r] at q'
    cases oo with
    | ex m =>
      rcases q' with ⟨s, h1, h2⟩ | ⟨m', h1, h2⟩
      · cases h1
      · cases h1; exact .inr ⟨m, rfl, h2⟩
    | ok ss =>
      refine .inl ⟨ss, rfl, fun vs B1 H1 n1 rs => ?_⟩
      exact make_out (E.nx n1) rs (by rw [rs.len, evs_len r, hn]) (OK.nx q' n1)⟩⟩
end
end PL
namespace PL
open PySem PySem.Spec PyProof.Rows L2
/-- what stands behind is not looked at -/
def sStop : SF := fun _ => none
structure HasM (P : Program) (w : World) (K : PySem.W.Frag) (mg : Str → Option Value) (base : Heap) (k : Nat) (C : Addr) (m : Str) (ps : List Str) (n : Nat) (F : FM) : Prop where
  ex : ∃ f fd, FG P w K mg base k f fd ps (spM K mg C n F) ∧ Meth K C m f ∧ Binds K fd ps []
structure HasI (P : Program) (w : World) (K : PySem.W.Frag) (mg : Str → Option Value) (base : Heap) (k : Nat) (C : Addr) (x : Str) (ps : List Str) (n : Nat) (F : FI) : Prop where
  ex : ∃ f fd, FG P w K mg base k f fd ps (spI K mg C n F) ∧ Mk K C f ∧ mg x = some (.ref C) ∧ Binds K fd ps []
section
variable {X : Cx} {C : Addr} {bmB : List Value} {B newId initId : String}
theorem pmk_own1N {x : Str} {e : Expr} {ta : TE} {p pos : Pos} (F : ExcBaseFacts B newId initId bmB) (q : PySem.W.excIn X.K C bmB newId = true) (gC : X.mg x = some (.ref C)) (kC : PySem.W.keepIn X.K (.ref C) = true) (r : Raises X (.ref C)) (hg : Gl X x)
    (he : PE X e ta) (hs : starEach [e] X.env = (false, eval e X.env) :: starEach [] X.env := by rfl) (hdb : (x == ("__debug__" : Str)) = false := by decide) :
    L2N.PMk X (.Call (.Name x p) [e] [] pos) (fun σ H Q => ta σ H fun _ H1 => Q (.ref C) none H1) := by
  intro pins s σ H Q I h
  refine wpAny_Call_Name_kw (ld_glob I hg gC ?_ hdb)
  refine PySem.W.callWith_K (h₀ := X.base) I.ok.mod.kin kC ?_ hs (by rfl)
  rw [hs]
  show wpAny _ _ (spliced ((false, eval e X.env) :: backTo pos (starEach [] X.env))) _ _ s
  refine Calls.spliced_cons (thn (he.run pins s σ H _ I h) fun u s1 ⟨v, H1, I1, r1, q1⟩ => ?_)
  refine Calls.spliced_nil ⟨I1.kIn, ?_⟩
  show wpAny _ _ (call (.ref C) [u]) _ _ _
  obtain ⟨bm, N, nm, qn, bs, hdct, sn, sub, ab, col, dd, k0, k1, k2, k3, k5, mN, hC, hN, hni, T⟩ := exc_obj I1.kIn q
  refine wpAny_call_exc_subT F T hC hN hni (fun h' e hm => ?_) (by show 1 ≤ sizeLine; rw [sizeLine_eq]; omega)
  exact L2N.mk_of I1 hm r q1 (I1.hok.gone hm.new)
end
section
variable {X : Cx} {H0 : En} {W : WX} {e a b o tg : Expr} {es : List Expr} {f g : EF} {fs : List EF} {pos p apos cpos : Pos} {K : PySem.W.Frag} {B H B' H' : Hp} {σ : L2.St} {mg : Str → Option Value} {ρ : Ev} {j k n c i : Nat} {ps : List Str} {x m : Str} {F : FM} {G : FI} {C : Addr} {st : List Stmt}
theorem psdStop : PSDs X H0 W st sStop := ⟨⟨fun pins s σ H D I ⟨B, ρ, o, E, h, ho⟩ => by cases h⟩⟩
theorem pdMakeH (h : HasI X.prog X.w X.K X.mg X.base j (H0.cl c) x ps n G) (hr : Room k X.A) (hgd : X.A.guards = some []) (tk : L2N.Takes X W) (ha : PDs X H0 W (e :: es) fs) (hj : j + 1 ≤ k := by decide) (hn : fs.length = n := by rfl) (hg : Gl X x := by rfl)
    (hdb : (x == ("__debug__" : Str)) = false := by decide) (he : starEach (e :: es) X.env = (false, eval e X.env) :: starEach es X.env := by rfl) (hpl : (backTo pos (starEach es X.env)).any (·.1) = false := by rfl) :
    PD X H0 W (.Call (.Name x p) (e :: es) [] pos) (eMake c G fs) := by
  obtain ⟨f, fd, h1, h2, h3, h4⟩ := h.ex
  exact pdMake h2 h1 (hr.mono hj) hgd h3 h4 tk ha hn hg hdb he hpl
/-- C(..).m(..) -/
def eMethT (c : Nat) (m : Str) (F : FM) (fo : EF) (fs : List EF) : EF := fun ρ => match fo ρ with
  | some (.ok (.cel (.obj fr c' os))) => if c' = c ∧ os.lookup m = none then bzs (evs fs ρ) fun ss => mRes F os ss else none
  | some (.ex q) => some (.ex q)
  | _ => none
theorem pdMethT (ho : PD X H0 W o g) (hc : Cls X.K (H0.cl c)) (h : HasM X.prog X.w X.K X.mg X.base j (H0.cl c) m ps n F) (hr : Room k X.A) (hgd : X.A.guards = some []) (tk : L2N.Takes X W) (ha : PDs X H0 W (e :: es) fs) (pl : Sem Bool) (hj : j ≤ k := by decide) (hn : fs.length = n := by rfl)
    (hst : starEach (e :: es) X.env = (false, eval e X.env) :: starEach es X.env := by rfl) (hpl : (backTo pos (starEach es X.env)).any (·.1) = false := by rfl)
    (ht : eval (.Call (.Attribute o m apos) (e :: es) [] pos) X.env = (do
      let ov ← eval o X.env
      standAt apos.atName
      let (f, first) ← holding [ov] (getMethod ov m pl)
      callWith pos f first (backTo pos (starEach (e :: es) X.env)) (backToKw pos (keywordEach [] X.env))) := by rfl) :
    PD X H0 W (.Call (.Attribute o m apos) (e :: es) [] pos) (eMethT c m F g fs) := by
  obtain ⟨f, fd, Fn, hm, hb⟩ := h.ex
  refine ⟨peWeak (peMethG (pl := pl) ho.pe hc hm Fn (hr.mono hj) hgd hb tk ha.pa hst hpl ht) fun σ H Q ⟨B, ρ, E, q⟩ => ⟨B, ρ, E, ?_⟩⟩
  unfold eMethT at q
  split at q
  · rename_i fr c' os hi
    split at q
    · rename_i hcc
      obtain ⟨rfl, hl⟩ := hcc
      refine .inl ⟨_, hi, fun v B1 H1 T n1 t1 r1 => ?_⟩
      obtain ⟨p, dx, xs, rfl, h1, h2⟩ := r1
      have E1 := E.nx n1
      refine ⟨p, dx, _, rfl, LF.toH E1.eB p _ h1, zip_none hl, B1, ρ, E1, ?_⟩
      have q' : OK X.K X.mg H0 W B1 H1 σ (bzs (evs fs ρ) fun ss => mRes F os ss) Q := OK.nx q n1
      cases r : evs fs ρ with
      | none => rw [r] at q'; exact (okNone q').elim
      | some oo =>
        rw [r] at q'
        cases oo with
        | ex m =>
          rcases q' with ⟨s, h1, h2⟩ | ⟨m', h1, h2⟩
          · cases h1
          · cases h1; exact .inr ⟨m, rfl, h2⟩
        | ok ss =>
          refine .inl ⟨ss, rfl, fun vs B2 H2 n2 rs => ?_⟩
          exact callM_out (E1.nx n2) (LF.mono n2.b _ _ h1) (h2.mono (LF.mono n2.b)) rs (by rw [rs.len, evs_len r, hn]) (OK.nx q' n2)
    · exact (okNone q).elim
  · rename_i m' hi
    rcases q with ⟨s, h1, h2⟩ | ⟨m2, h1, h2⟩
    · cases h1
    · cases h1; exact .inr ⟨m', hi, h2⟩
  · exact (okNone q).elim
/-- raise X(e) -/
def sRaiseV (x : Str) (f : EF) : SF := fun ρ => bSz (f ρ) ρ fun _ => some (.ex x ρ)
theorem psdRaiseV (hc : X.calm = true) (tk : L2N.Takes X W) (Fx : ClsF X.K X.mg x) (he : PD X H0 W e f) (hg : Gl X x := by rfl) (hs : starEach [e] X.env = (false, eval e X.env) :: starEach [] X.env := by rfl) (hdb : (x == ("__debug__" : Str)) = false := by decide) : PSD X H0 W (.Raise (some (.Call (.Name x p) [e] [] cpos)) none pos) (sRaiseV x f) := by
  obtain ⟨C, h1, h2, h3, h4, h5⟩ := Fx.ex
  exact ⟨psWeak (L2N.ps_raise hc tk (pmk_own1N PySem.F.excBase_ValueError h2 h1 h3 (raises_own h4 h5) hg he.z hs hdb)) fun D σ H ⟨B, ρ, oo, E, hh, ho⟩ => ⟨B, ρ, E, bSz_ok E hh ho fun s v B' H' n r q ho' => by
    cases q
    exact ho' (.ref C) σ B' H' h1 (E.nx n) (Same.refl _)⟩⟩
/-- a.split(b) -/
def eSplit (f g : EF) : EF := fun ρ => bz (f ρ) fun x => match dat x with
  | some (.str a) => bz (g ρ) fun y => match dat y with
    | some (.str b) => if b.length ≠ 0 ∧ a.length + 2 ≤ 16777216 then some (.ok (.own true ((Txt.split a b).map PyData.str))) else none
    | _ => none
  | _ => none
theorem rep_strs {L : Addr → HO → Prop} : ∀ ys : List Str, RepAll L (ys.map V.str) (ys.map PyData.str)
  | [] => .nil
  | y :: ys => .cons (.str y) (rep_strs ys)
theorem pdSplit (ha : PD X H0 W a f) (hb : PD X H0 W b g) (hs : starEach [b] X.env = [(false, eval b X.env)] := by rfl) (hbase : attributeBase a "split" X.env (eval a X.env) = eval a X.env := by rfl) (hline : (apos.endLine == pos.line) = true := by rfl) : PD X H0 W (.Call (.Attribute a "split" apos) [b] [] pos) (eSplit f g) :=
  ⟨peWeak (pe_split ha.z hb.z hs hbase hline) fun σ H Q ⟨B, ρ, E, q⟩ => by
    refine ⟨B, ρ, E, OK.bz q fun x v B1 H1 n1 r1 q1 => ?_⟩
    split at q1
    · rename_i z hz
      have e1 := (r1.data n1.bh hz).strV
      refine ⟨⟨z, e1⟩, B1, ρ, E.nx n1, OK.bz q1 fun y u B2 H2 n2 r2 q2 => ?_⟩
      split at q2
      · rename_i w hw
        split at q2
        · rename_i hh
          rcases q2 with ⟨s, h1, h2⟩ | ⟨m, h1, h2⟩
          · cases h1
            refine ⟨z, w, e1, by rw [(r2.data n2.bh hw).strV], by rw [beq_eq_false_iff_ne]; exact hh.1, by rw [sizeLine_eq]; exact hh.2, fun p hp => ?_⟩
            exact h2.new n2.bh (rep_strs _) hp
          · cases h1
        · exact (okNone q2).elim
      · exact (okNone q2).elim
    · exact (okNone q1).elim⟩
/-- a text, sign by sign -/
def mkSt : Sl → Option (List Sl)
  | .val _ (.str z) => some (z.cps.toList.map fun c => .val true (.str ⟨#[c]⟩))
  | _ => none
/-- int(text) -/
def gIntT (d : PyData) : Option PyData := match d with
  | .str a => if a.length ≤ 640 then (PySem.intText? a).map .int else none
  | _ => none
/-- str(int) -/
def gStrI (d : PyData) : Option PyData := match d with
  | .int i => if i.natAbs.log2 < 1920 then some (.str (toString i)) else none
  | _ => none
theorem crStrI : CallR X (.type "str") (rD1 X.K gStrI) := cr1 call_str_int fun K H x d y Q e r h q => by
  subst e
  cases r <;> first | cases h | skip
  rename_i z
  unfold gStrI at h
  dsimp only at h
  split at h
  · rename_i hz
    cases h
    exact ⟨z, rfl, hz, q⟩
  · cases h
/-- the name x is a dict with text keys and ints -/
def Ent : List DictEntry → List (Str × Int) → Prop
  | [], [] => True
  | e :: es, (k, i) :: tab => (∃ t, e.key = .str k t) ∧ (∃ t, e.val = .int i t) ∧ Ent es tab
  | _, _ => False
structure KTab (K : PySem.W.Frag) (w : World) (mg : Str → Option Value) (x : Str) (tab : List (Str × Int)) : Prop where
  ex : ∃ d es n, mg x = some (.ref d) ∧ KDict K w d es n ∧ Ent es.toList tab
theorem ent_no : ∀ {es : List DictEntry} {tab : List (Str × Int)}, Ent es tab → es.any (·.refKey) = false
  | [], [], _ => rfl
  | e :: es, (k, i) :: tab, ⟨⟨t, h1⟩, _, h3⟩ => by
    rw [List.any_cons, ent_no h3, Bool.or_false]
    unfold DictEntry.refKey
    rw [h1]
  | [], _ :: _, h => h.elim
  | _ :: _, [], h => h.elim
theorem ent_find {z : Str} : ∀ {es : List DictEntry} {tab : List (Str × Int)}, Ent es tab → (∃ e i t, es.find? (·.key.isStr z) = some e ∧ tab.lookup z = some i ∧ e.val = .int i t) ∨ (es.find? (·.key.isStr z) = none ∧ tab.lookup z = none)
  | [], [], _ => .inr ⟨rfl, rfl⟩
  | e :: es, (k, i) :: tab, ⟨⟨t, h1⟩, ⟨t2, h2⟩, h3⟩ => by
    have hb : e.key.isStr z = (k == z) := by rw [h1]; rfl
    rw [List.find?_cons, List.lookup_cons, hb]
    have hs : (z == k) = (k == z) := by
      by_cases h : k = z
      · subst h; rfl
      · rw [beq_eq_false_iff_ne.mpr h, beq_eq_false_iff_ne.mpr (Ne.symm h)]
    rw [hs]
    cases hk : k == z with
    | true => exact .inl ⟨e, i, t2, rfl, rfl, h2⟩
    | false => exact ent_find h3
  | [], _ :: _, h => h.elim
  | _ :: _, [], h => h.elim
theorem ktab_at {w : World} {d : Addr} {es : Array DictEntry} {tab : List (Str × Int)} (D : KDict K w d es n) (h : Ent es.toList tab) (z : Str) : (∃ i t, PySem.W.nsIn K d z = some (some (.int i t)) ∧ tab.lookup z = some i) ∨ (PySem.W.nsIn K d z = some none ∧ tab.lookup z = none) := by
  unfold PySem.W.nsIn
  rw [D.at_]
  dsimp only
  rcases ent_find (z := z) h with ⟨e, i, t, h1, h2, h3⟩ | ⟨h1, h2⟩
  · rw [h1]
    exact .inl ⟨i, t, by show some (some e.val) = _; rw [h3], h2⟩
  · rw [h1, ent_no h]
    exact .inr ⟨rfl, h2⟩
def eKIn (neg : Bool) (tab : List (Str × Int)) (f : EF) : EF := fun ρ => bz (f ρ) fun s => match dat s with
  | some (.str z) => some (.ok (.val true (.bool (neg ^^ (tab.lookup z).isSome))))
  | _ => none
theorem kin_ok {r : R2} {tab : List (Str × Int)} {d : Addr} {neg : Bool} (q : OK X.K mg H0 W B H σ (eKIn neg tab f ρ) Q) (hr : ∀ z H1 (Q : VK), Q (.bl (neg ^^ (tab.lookup z).isSome)) H1 → r (.str z) (.ref d) H1 Q) : OKZ X.K mg H0 W B H σ (f ρ) fun x H1 => tC (V.ref d) σ H1 fun y H2 => r x y H2 Q := OK.bz q fun x v B1 H1 n1 r1 q1 => by
  split at q1
  · rename_i z hz
    have e1 := (r1.data n1.bh hz).strV
    subst e1
    rcases q1 with ⟨s, h1, h2⟩ | ⟨m, h1, h2⟩
    · cases h1
      exact hr z H1 Q (h2.bl n1.bh)
    · cases h1
  · exact (okNone q1).elim
theorem pdKIn {tab : List (Str × Int)} (h : KTab X.K X.w X.mg x tab) (ha : PD X H0 W a f) (hg : Gl X x := by rfl) (hdb : (x == ("__debug__" : Str)) = false := by decide) (hm : behindInMarks .In (.Name x p) = false := by rfl) : PD X H0 W (.Compare a [.In] [.Name x p] pos) (eKIn false tab f) := by
  obtain ⟨d, es, n, h1, h2, h3⟩ := h.ex
  refine ⟨peWeak (pe_cmpR (op_in_kd h2) ha.z (pe_glob (v := .ref d) hg h1 rfl hdb) hm) fun σ H Q ⟨B, ρ, E, q⟩ => ⟨B, ρ, E, kin_ok (d := d) (r := fun x y H Q => ∃ (z : Str) (r : Option Value), x = .str z ∧ y = .ref d ∧ PySem.W.nsIn X.K d z = some r ∧ Q (.bl r.isSome) H) q fun z H1 Q q => ?_⟩⟩
  rcases ktab_at h2 h3 z with ⟨i, t, g1, g2⟩ | ⟨g1, g2⟩
  · exact ⟨z, _, rfl, rfl, g1, by rw [g2] at q; exact q⟩
  · exact ⟨z, _, rfl, rfl, g1, by rw [g2] at q; exact q⟩
def eKIx (tab : List (Str × Int)) (f : EF) : EF := fun ρ => bz (f ρ) fun s => match dat s with
  | some (.str z) => match tab.lookup z with
    | some i => some (.ok (.val true (.int i)))
    | none => none
  | _ => none
def eC2 (s : Sl) : EF := fun _ => some (.ok s)
end
end PL
namespace PL
open PySem PySem.Spec PyProof.Rows L2
def kI0 (c : Nat) (o : Option Out) : Option IR := match o with
  | some (.nx ρ) => selfOf c ρ
  | some (.ex m _) => some (.exc m)
  | _ => none
theorem callI_eq (n c : Nat) (F : SF) (ds : List PyData) : callI n c F ds = kI0 c (F (.cel (.obm true c []) :: entE (n - 1) ds)) := rfl
theorem selfOf_eq (c : Nat) (fr : Bool) (fs : Fds) (ρ : Ev) : selfOf c (.cel (.obm fr c fs) :: ρ) = some (.ok fs) := by
  unfold selfOf
  show (if c = c then _ else _) = _
  rw [if_pos rfl]
theorem kI0_nx (c : Nat) (ρ : Ev) : kI0 c (some (.nx ρ)) = selfOf c ρ := rfl
theorem kI0_ex (c : Nat) (m : Str) (ρ : Ev) : kI0 c (some (.ex m ρ)) = some (.exc m) := rfl
theorem callM_eq (n c : Nat) (F : SF) (fs : Fds) (ds : List PyData) : callM n c F fs ds = kF (F (.cel (.obj false c fs) :: entE (n - 1) ds)) := rfl
def kI1 (c : Nat) (r : Option IR) (v : Bool) : Option Rs := if v = true then (match r with
  | some (.ok os) => some (.ok (.cel (.obj false c os)))
  | some (.exc n) => some (.ex n)
  | none => none) else none
theorem kI1_ok (c : Nat) (os : Fds) : kI1 c (some (.ok os)) true = some (.ok (.cel (.obj false c os))) := rfl
theorem kI1_exc (c : Nat) (n : Str) : kI1 c (some (.exc n)) true = some (.ex n) := rfl
def kI2 (c : Nat) (F : FI) (o : Option (List PyData)) (v : Bool) : Option Rs := match o with | some ds => kI1 c (F ds) v | none => none
theorem ev_ires (c : Nat) (F : FI) (ss : List Sl) : iRes c F ss = kI2 c F (dats ss) (ss.all isVal) := by
  unfold iRes kI2 kI1
  cases ss.all isVal <;> cases dats ss <;> rfl
theorem kI2_some (c : Nat) (F : FI) (ds : List PyData) (v : Bool) : kI2 c F (some ds) v = kI1 c (F ds) v := rfl
def kMkI (c : Nat) (F : FI) (r : Option Ra) : Option Rs := PL.bzs r fun ss => iRes c F ss
theorem ev_make (c : Nat) (F : FI) (fs : List EF) (ρ : Ev) : eMake c F fs ρ = kMkI c F (evs fs ρ) := rfl
theorem kMkI_ok (c : Nat) (F : FI) (ss : List Sl) : kMkI c F (some (.ok ss)) = iRes c F ss := rfl
def kMr (F : FM) (os : Fds) (o : Option (List PyData)) (v : Bool) : Option Rs := match o with | some ds => kRes (F os ds) v | none => none
theorem ev_mres (F : FM) (os : Fds) (ss : List Sl) : mRes F os ss = kMr F os (dats ss) (ss.all isVal) := by
  unfold mRes kMr kRes
  rfl
theorem kMr_some (F : FM) (os : Fds) (ds : List PyData) (v : Bool) : kMr F os (some ds) v = kRes (F os ds) v := rfl
def kMe (c : Nat) (m : Str) (F : FM) (o : Option Sl) (r : Option Ra) : Option Rs := match o with
  | some (.cel (.obj fr c' os)) => if c' = c ∧ os.lookup m = none then bzs r fun ss => mRes F os ss else none
  | _ => none
theorem ev_meth (c i : Nat) (m : Str) (F : FM) (fs : List EF) (ρ : Ev) : eMeth c i m F fs ρ = kMe c m F ρ[i]? (evs fs ρ) := by unfold eMeth kMe; rfl
theorem kMe_ok {c : Nat} {m : Str} {F : FM} {fr : Bool} {os : Fds} {ss : List Sl} (h : os.lookup m = none) : kMe c m F (some (.cel (.obj fr c os))) (some (.ok ss)) = mRes F os ss := by
  show (if c = c ∧ os.lookup m = none then _ else _) = _
  rw [if_pos ⟨rfl, h⟩]; rfl
def kMt (c : Nat) (m : Str) (F : FM) (o : Option Rs) (r : Option Ra) : Option Rs := match o with
  | some (.ok (.cel (.obj fr c' os))) => if c' = c ∧ os.lookup m = none then bzs r fun ss => mRes F os ss else none
  | some (.ex q) => some (.ex q)
  | _ => none
theorem ev_metht (c : Nat) (m : Str) (F : FM) (fo : EF) (fs : List EF) (ρ : Ev) : eMethT c m F fo fs ρ = kMt c m F (fo ρ) (evs fs ρ) := by unfold eMethT kMt; rfl
theorem kMt_ok {c : Nat} {m : Str} {F : FM} {fr : Bool} {os : Fds} {ss : List Sl} (h : os.lookup m = none) : kMt c m F (some (.ok (.cel (.obj fr c os)))) (some (.ok ss)) = mRes F os ss := by
  show (if c = c ∧ os.lookup m = none then _ else _) = _
  rw [if_pos ⟨rfl, h⟩]; rfl
theorem kMt_ex (c : Nat) (m : Str) (F : FM) (n : Str) (r : Option Ra) : kMt c m F (some (.ex n)) r = some (.ex n) := rfl
def kFl (c : Nat) (f : Str) (o : Option Sl) : Option Rs := match o with
  | some (.cel (.obj fr c' fs)) => if c' = c then (match fs.lookup f with | some d => some (.ok (mkv fr d)) | none => none) else none
  | some (.cel (.obm fr c' fs)) => if c' = c then (match fs.lookup f with | some d => some (.ok (mkv fr d)) | none => none) else none
  | _ => none
theorem ev_fld (c i : Nat) (f : Str) (ρ : Ev) : eFld c i f ρ = kFl c f ρ[i]? := by unfold eFld kFl; rfl
theorem kFl_obj {c : Nat} {f : Str} {fr : Bool} {fs : Fds} {d : PyData} (h : fs.lookup f = some d) : kFl c f (some (.cel (.obj fr c fs))) = some (.ok (mkv fr d)) := by
  show (if c = c then _ else _) = _
  rw [if_pos rfl, h]
theorem kFl_obm {c : Nat} {f : Str} {fr : Bool} {fs : Fds} {d : PyData} (h : fs.lookup f = some d) : kFl c f (some (.cel (.obm fr c fs))) = some (.ok (mkv fr d)) := by
  show (if c = c then _ else _) = _
  rw [if_pos rfl, h]
def kFS (c i : Nat) (fn : Str) (ρ : Ev) (o : Option (Bool × PyData)) (z : Option Sl) : Option Out := match o with
  | some (f', d) => match z with
    | some (.cel (.obm fr c' os)) => if c' = c ∧ os.lookup fn = none ∧ os.length < 900 then some (.nx (ρ.set i (putS' fr c os fn f' d))) else none
    | _ => none
  | none => none
def kFSo (c i : Nat) (fn : Str) (ρ : Ev) (o : Option Rs) : Option Out := bSz o ρ fun s => kFS c i fn ρ (stor s) ρ[i]?
theorem ev_flds (c i : Nat) (fn : Str) (f : EF) (ρ : Ev) : sFldS c i fn f ρ = kFSo c i fn ρ (f ρ) := rfl
theorem kFSo_ok (c i : Nat) (fn : Str) (ρ : Ev) (s : Sl) : kFSo c i fn ρ (some (.ok s)) = kFS c i fn ρ (stor (frz s)) ρ[i]? := rfl
theorem kFS_ok {c i : Nat} {fn : Str} {ρ : Ev} {f' fr : Bool} {d : PyData} {os : Fds} (h : os.lookup fn = none) (hl : os.length < 900) : kFS c i fn ρ (some (f', d)) (some (.cel (.obm fr c os))) = some (.nx (ρ.set i (.cel (.obm (fr && f') c (os ++ [(fn, d)]))))) := by
  show (if c = c ∧ os.lookup fn = none ∧ os.length < 900 then _ else _) = _
  rw [if_pos ⟨rfl, h, hl⟩]; rfl
theorem gFs_nil (c i : Nat) (ρ : Ev) : gFs c i [] [] ρ = some ρ := by rw [gFs.eq_def]
theorem gFs_inl {c i j : Nat} {is : Tg} {fr : Bool} {d : PyData} {ss : List Sl} {ρ : Ev} (h : (j == i) = false) : gFs c i (.inl j :: is) (.val fr d :: ss) ρ = gFs c i is ss (ρ.set j (.val fr d)) := by
  rw [gFs.eq_def]
  show (if stb (.val fr d) = true ∧ j ≠ i then _ else _) = _
  rw [if_pos ⟨rfl, by simpa using h⟩]
theorem gFs_inr {c : Nat} {is : Tg} {fr f' : Bool} {d : PyData} {ss : List Sl} {ρ : Ev} {fn : Str} {os : Fds} (h : os.lookup fn = none) (hl : os.length < 900) : gFs c 0 (.inr fn :: is) (.val f' d :: ss) (.cel (.obm fr c os) :: ρ) = gFs c 0 is ss (.cel (.obm (fr && (f' || scal d)) c (os ++ [(fn, d)])) :: ρ) := by
  rw [gFs.eq_def]
  show (if c = c ∧ os.lookup fn = none ∧ os.length < 900 then _ else _) = _
  rw [if_pos ⟨rfl, h, hl⟩]; rfl
def kUF2 (n m : Nat) (o : Option Ev) : Option Out := match o with
  | some ρ' => if n = m then some (.nx ρ') else none
  | none => none
theorem kUF2_ok (n : Nat) (ρ : Ev) : kUF2 n n (some ρ) = some (.nx ρ) := if_pos rfl
def kUF (c i : Nat) (is : Tg) (ρ : Ev) (o : Option (List Sl)) : Option Out := match o with
  | some ss => kUF2 ss.length is.length (gFs c i is ss ρ)
  | none => none
theorem kUF_some (c i : Nat) (is : Tg) (ρ : Ev) (ss : List Sl) : kUF c i is ρ (some ss) = kUF2 ss.length is.length (gFs c i is ss ρ) := rfl
def kUFo (c i : Nat) (is : Tg) (ρ : Ev) (o : Option Rs) : Option Out := bSz o ρ fun s => kUF c i is ρ (itemsT s)
theorem ev_unpf (c i : Nat) (is : Tg) (f : EF) (ρ : Ev) : sUnpF c i is f ρ = kUFo c i is ρ (f ρ) := rfl
theorem kUFo_ok (c i : Nat) (is : Tg) (ρ : Ev) (s : Sl) : kUFo c i is ρ (some (.ok s)) = kUF c i is ρ (itemsT (frz s)) := rfl
def kRv (x : Str) (ρ : Ev) (o : Option Rs) : Option Out := bSz o ρ fun _ => some (.ex x ρ)
theorem ev_raisev (x : Str) (f : EF) (ρ : Ev) : sRaiseV x f ρ = kRv x ρ (f ρ) := rfl
theorem kRv_ok (x : Str) (ρ : Ev) (s : Sl) : kRv x ρ (some (.ok s)) = some (.ex x ρ) := rfl
def kSp2 (a : Str) (o : Option Rs) : Option Rs := PL.bz o fun y => match dat y with
  | some (.str b) => if b.length ≠ 0 ∧ a.length + 2 ≤ 16777216 then some (.ok (.own true ((Txt.split a b).map PyData.str))) else none
  | _ => none
def kSp (o : Option Rs) (p : Option Rs) : Option Rs := PL.bz o fun x => match dat x with
  | some (.str a) => kSp2 a p
  | _ => none
theorem ev_split (f g : EF) (ρ : Ev) : eSplit f g ρ = kSp (f ρ) (g ρ) := rfl
theorem kSp_ok {fr fr' : Bool} {a b : Str} (h1 : b.length ≠ 0) (h2 : a.length + 2 ≤ 16777216) : kSp (some (.ok (.val fr (.str a)))) (some (.ok (.val fr' (.str b)))) = some (.ok (.own true ((Txt.split a b).map PyData.str))) := by
  show (if _ then _ else _) = _
  rw [if_pos ⟨h1, h2⟩]
theorem ev_mkst (fr : Bool) (z : Str) : mkSt (.val fr (.str z)) = some (z.cps.toList.map fun c => .val true (.str ⟨#[c]⟩)) := rfl
def kKi (neg : Bool) (tab : List (Str × Int)) (o : Option Rs) : Option Rs := PL.bz o fun s => match dat s with
  | some (.str z) => some (.ok (.val true (.bool (neg ^^ (tab.lookup z).isSome))))
  | _ => none
theorem ev_kin (neg : Bool) (tab : List (Str × Int)) (f : EF) (ρ : Ev) : eKIn neg tab f ρ = kKi neg tab (f ρ) := rfl
theorem kKi_ok (neg : Bool) (tab : List (Str × Int)) (fr : Bool) (z : Str) : kKi neg tab (some (.ok (.val fr (.str z)))) = some (.ok (.val true (.bool (neg ^^ (tab.lookup z).isSome)))) := rfl
def kKx (tab : List (Str × Int)) (o : Option Rs) : Option Rs := PL.bz o fun s => match dat s with
  | some (.str z) => match tab.lookup z with
    | some i => some (.ok (.val true (.int i)))
    | none => none
  | _ => none
theorem ev_kix (tab : List (Str × Int)) (f : EF) (ρ : Ev) : eKIx tab f ρ = kKx tab (f ρ) := rfl
theorem kKx_ok {tab : List (Str × Int)} {fr : Bool} {z : Str} {i : Int} (h : tab.lookup z = some i) : kKx tab (some (.ok (.val fr (.str z)))) = some (.ok (.val true (.int i))) := by
  show (match tab.lookup z with | some i => _ | none => _) = _
  rw [h]
theorem ev_c2 (s : Sl) (ρ : Ev) : eC2 s ρ = some (.ok s) := rfl
theorem ev_intT (a : Str) : gIntT (.str a) = if a.length ≤ 640 then (PySem.intText? a).map .int else none := rfl
theorem ev_strI (i : Int) : gStrI (.int i) = if i.natAbs.log2 < 1920 then some (.str (toString i)) else none := rfl
end PL
namespace PL
open PySem PySem.Spec PyProof.Rows L2
theorem ExK.ob {P : Program} {w : World} {H : Hp} {h : Heap} {a C : Addr} (k : ExK H a C) (ok : HOk P w H h) : ∃ oe vs, h.get? a = some oe ∧ oe.cls = .ref C ∧ oe.dict = none ∧ oe.data = .fields vs := by
  obtain ⟨φ, hh, q⟩ := k
  rcases hh with hh | ⟨o, hh⟩
  · exact q h (ok a _ hh).1
  · exact q h (ok a _ hh).2.1
theorem ExT.ob {P : Program} {w : World} {H : Hp} {h : Heap} {a t C : Addr} (k : ExT H a t C) (ok : HOk P w H h) : ∃ oe vs, h.get? a = some oe ∧ oe.cls = .ref C ∧ oe.dict = none ∧ oe.data = .fields vs ∧ vs[0]? = some (.ref t) := by
  obtain ⟨φ, hh, q⟩ := k
  exact q h (ok a _ hh).1
section
variable {X : Cx}
structure StrC (K : PySem.W.Frag) (D : Addr) : Prop where
  s : PySem.W.findIn K (.ref D) "__str__" = some (some (.builtin "BaseException.__str__"))
  b : PySem.W.subIn K (.ref D) (.type "BaseException") = some true
def rStrX (K : PySem.W.Frag) : List V → Hp → VK → Prop := fun xs H Q => ∃ (a t D : Addr) (m : Str), xs = [.ref a] ∧ ExT H a t D ∧ H t = some (.tup [.str m]) ∧ StrC K D ∧ Q (.str m) H
theorem call_strX (hu : X.A.units + 2 < cLine) : CallR X (.type "str") (rStrX X.K) := by
  intro pins s σ H xs us Q I r h
  obtain ⟨a, t, D, m, rfl, hk, ht, S, q⟩ := h
  cases r with
  | cons rx rr =>
    cases rr
    cases rx
    obtain ⟨oe, vs, hget, hc, hd, hv, h0⟩ := hk.ob I.hok
    obtain ⟨-, its, ri, it⟩ := I.hok t _ ht
    cases ri with
    | cons r1 r2 =>
      cases r2
      obtain ⟨tk, rfl⟩ := r1
      obtain ⟨o, ho, h1, n, h2⟩ := it
      exact PySem.P.str_of_C_one hu ⟨I.kIn, oe, vs, hget, hc, hv, h0⟩ ⟨o, n, ho, h1, h2⟩ S.s S.b ⟨.str m, H, I, ⟨tk, rfl⟩, q⟩
end
def exS (C a t : Addr) : HO := .ext fun h => ∃ (oe : Obj) (vs : Array Value), h.get? a = some oe ∧ oe.cls = .ref C ∧ oe.dict = none ∧ oe.data = .fields vs ∧ vs[0]? = some (.ref t)
theorem exS_t {B : Hp} {a t C : Addr} (h : B a = some (exS C a t)) : ExT B a t C := ⟨_, h, fun h' hh => hh⟩
section
variable {fs ex : List Addr} {H : Hp} {h h' : Heap} {a t : Addr} {o u : HO}
theorem Un.laid2 (k : ∀ b u, h.get? b = some u → h'.get? b = some u) (hp : h.get? a = none) (hq : h.get? t = none) (hn : H a = none) (hm : H t = none) : Un fs ex H (upd (upd H t u) a o) h h' := by
  have ne : ∀ b, H b ≠ none → (upd (upd H t u) a o) b = H b := fun b q => by
    rw [upd_ne (fun z => by subst z; exact q hn), upd_ne (fun z => by subst z; exact q hm)]
  exact {
    keep := fun b u q _ _ _ => k b u q
    slot := fun b u q _ _ _ => ⟨u.slots, k b u q⟩
    free := fun b u q n _ => by rw [upd_ne (fun z => by rw [z, hp] at q; cases q), upd_ne (fun z => by rw [z, hq] at q; cases q)]; exact n
    there := fun b u q _ => ⟨u, k b u q⟩
    tups := fun b xs q => by rw [ne b (by rw [q]; simp)]; exact q
    frzs := fun b u xs q => by rw [ne b (by rw [q]; simp)]; exact q
    tbls := fun b ps q => ⟨#[], by rw [ne b (by rw [q]; simp), q]; simp⟩ }
theorem HOk.laid2 {P : Program} {w : World} (x : HOk P w H h) (k : ∀ b u, h.get? b = some u → h'.get? b = some u) (hn : H a = none) (hm : H t = none) (new : ObjOk P w (upd (upd H t u) a o) h' a o) (new2 : a ≠ t → ObjOk P w (upd (upd H t u) a o) h' t u) : HOk P w (upd (upd H t u) a o) h' := fun b v e => by
  by_cases hb : b = a
  · subst hb
    rw [upd_same] at e
    cases e
    exact new
  · rw [upd_ne hb] at e
    by_cases hc : b = t
    · subst hc
      rw [upd_same] at e
      cases e
      exact new2 (Ne.symm hb)
    · rw [upd_ne hc] at e
      have ne : ∀ c, H c ≠ none → (upd (upd H t u) a o) c = H c := fun c q => by
        rw [upd_ne (fun z => by subst z; exact q hn), upd_ne (fun z => by subst z; exact q hm)]
      exact (x b v e).stay (fun c v _ q => k c v q) (fun c q => by rw [ne c (by rw [q]; simp)]; exact q) fun c xs q => by rw [ne c (by rw [q]; simp)]; exact q
end
section
variable {X : Cx}
/-- X(e), with the text that it was made with -/
theorem pe_exc1T {C : Addr} {bmB : List Value} {B newId initId : String} {x : Str} {e : Expr} {ta : TE} {p pos : Pos} (F : ExcBaseFacts B newId initId bmB) (q : PySem.W.excIn X.K C bmB newId = true) (gC : X.mg x = some (.ref C)) (kC : PySem.W.keepIn X.K (.ref C) = true) (hg : Gl X x)
    (he : PE X e ta) (hs : starEach [e] X.env = (false, eval e X.env) :: starEach [] X.env := by rfl) (hdb : (x == ("__debug__" : Str)) = false := by decide) :
    PE X (.Call (.Name x p) [e] [] pos) (fun σ H Q => ta σ H fun v H1 => ∃ m, v = .str m ∧ ∀ a t, H1 a = none → H1 t = none → a ≠ t → Q (.ref a) (upd (upd H1 t (.tup [.str m])) a (exS C a t))) := by
  refine ⟨fun pins s σ H Q I h => ?_⟩
  refine wpAny_Call_Name_kw (ld_glob I hg gC ?_ hdb)
  refine PySem.W.callWith_K (h₀ := X.base) I.ok.mod.kin kC ?_ hs (by rfl)
  rw [hs]
  show wpAny _ _ (spliced ((false, eval e X.env) :: backTo pos (starEach [] X.env))) _ _ s
  refine Calls.spliced_cons (thn (he.run pins s σ H _ I h) fun u s1 ⟨v, H1, I1, r1, m, em, q1⟩ => ?_)
  subst em
  obtain ⟨tk, rfl⟩ := r1
  refine Calls.spliced_nil ⟨I1.kIn, ?_⟩
  show wpAny _ _ (call (.ref C) [_]) _ _ _
  obtain ⟨bm, N, nm, qn, bs, hdct, sn, sub, ab, col, dd, k0, k1, k2, k3, k5, mN, hC, hN, hni, T⟩ := exc_obj I1.kIn q
  refine wpAny_call_exc_subT F T hC hN hni (fun h' a hm => ?_) (by show 1 ≤ sizeLine; rw [sizeLine_eq]; omega)
  have hn : H1 a = none := I1.hok.gone hm.new
  obtain ⟨t, ht, tn, tt⟩ := hm.there
  have hnt : H1 t = none := I1.hok.gone tn
  have ne : a ≠ t := fun z => by
    subst z
    rw [ht] at tt
    cases tt
  refine ⟨.ref a, upd (upd H1 t (.tup [.str m])) a (exS C a t), ?_, rfl, q1 a t hn hnt ne⟩
  refine I1.un (Un.laid2 hm.keeps hm.new tn hn hnt) (HOk.laid2 I1.hok hm.keeps hn hnt ?_ fun _ => ?_)
  · exact ⟨⟨_, _, ht, rfl, rfl, rfl, rfl⟩, ⟨_, ht⟩, fun h1 h2 ⟨oe, vs, e1, e2⟩ k => ⟨oe, vs, k oe e1, e2⟩⟩
  · exact ⟨by show 1 ≤ sizeLine; rw [sizeLine_eq]; omega, [.str m tk], .cons ⟨tk, rfl⟩ .nil, ⟨_, tt, rfl, _, rfl⟩⟩
end
end PL
namespace PL
open PySem PySem.Spec PyProof.Rows L2
def ExB (base : Heap) (a C : Addr) : Prop := ∃ oe vs, base.get? a = some oe ∧ oe.cls = .ref C ∧ oe.dict = none ∧ oe.data = .fields vs
/-- .. it is pinned -/
def ExP (pn : List (Addr × Obj)) (a C : Addr) : Prop := ∃ oe vs, (a, oe) ∈ pn ∧ oe.cls = .ref C ∧ oe.dict = none ∧ oe.data = .fields vs
def ExA (base : Heap) (pn : List (Addr × Obj)) (B : Hp) (a C : Addr) : Prop := ExK B a C ∨ ExB base a C ∨ ExP pn a C
theorem ExA.mono {base : Heap} {pn : List (Addr × Obj)} {B B' : Hp} {a C : Addr} (e : Same B B') : ExA base pn B a C → ExA base pn B' a C
  | .inl h => .inl (h.mono e)
  | .inr h => .inr h
section
variable {X : Cx}
theorem ExA.ob {pins : List (Addr × Obj)} {s : Shared} {σ : L2.St} {H : Hp} {a C : Addr} (I : Inv X pins σ H s) : ExA X.base X.pn H a C → ∃ oe vs, s.heap.get? a = some oe ∧ oe.cls = .ref C ∧ oe.dict = none ∧ oe.data = .fields vs
  | .inl h => h.ob I.hok
  | .inr (.inl ⟨oe, vs, h1, h2⟩) => ⟨oe, vs, I.bk a oe h1, h2⟩
  | .inr (.inr ⟨oe, vs, h1, h2⟩) => ⟨oe, vs, (I.pin (a, oe) (List.mem_append_left _ h1)).1, h2⟩
def rIsA (K : PySem.W.Frag) (base : Heap) (pn : List (Addr × Obj)) : List V → Hp → VK → Prop := fun xs H Q => ∃ (a D : Addr) (c : V) (cv : Value) (b : Bool), xs = [.ref a, c] ∧ ExA base pn H a D ∧ L2.ExcC K D ∧ (∀ u, RelV c u → u = cv) ∧ PySem.W.kitOne K (.ref D) cv = some b ∧ Q (.bl b) H
theorem call_isA : CallR X (.builtin "isinstance") (rIsA X.K X.base X.pn) := by
  intro pins s σ H xs us Q I r h
  obtain ⟨a, D, c, cv, b, rfl, hk, C, hcv, e, q⟩ := h
  cases r with
  | cons rx rr =>
    cases rr with
    | cons rt rr =>
      cases rr
      cases rx
      have ec := hcv _ rt
      subst ec
      obtain ⟨oe, vs, hget, hc, hd, hv⟩ := hk.ob I
      have J : PySem.W.InstAt s.heap a oe D none := by
        obtain ⟨oc, od, oda, osl⟩ := oe
        dsimp only at hc hd hv
        subst hc hd hv
        exact ⟨hget, rfl, rfl, trivial⟩
      exact PySem.W.kia_one (PySem.W.handS_kitx_exc C.hg C.hk C.hs C.hd C.ha C.hn C.ht C.hm) I.kIn J e (fun z => nomatch z) fun tk => ⟨.bl b, H, I.kept (t' := tk) fun _ _ z => z, rfl, q⟩
end
abbrev FX := Str → FN
def spX (K : PySem.W.Frag) (mg : Str → Option Value) (base : Heap) (n : Nat) (F : FX) : Sp := fun vs H Q E => vs.length = n + 1 ∧ ∃ a ws B C x ds r, vs = .ref a :: ws ∧ Same B H ∧ mg x = some (.ref C) ∧ ExA base [] B a C ∧ RepAll (LH K B) ws ds ∧ F x ds = some r ∧ FROk K mg B H Q E r
def entX (n : Nat) (x : Str) (ds : List PyData) : Ev := .exn x :: entE (n - 1) ds
def callX (n : Nat) (F : SF) : FX := fun x ds => match F (entX n x ds) with
  | some (.nx _) => some (.ret true .none)
  | some (.rt s) => frOf s
  | some (.ex m _) => some (.exc m)
  | _ => none
section
variable {P : Program} {w : World} {K : PySem.W.Frag} {mg : Str → Option Value} {base : Heap} {k : Nat} {f : Addr} {fd : FuncData} {ps N : List Str} {B H : Hp}
theorem entry_x {so : Addr → BS.Mem → HO} {cl : Nat → Addr} {a : Addr} {x : Str} {vs : List V} {ds : List PyData} (n : Nat) (e : Same B H) (r : RepAll (LH K B) vs ds) (hn : ds.length + 1 ≤ n) (hN : N.length = n) : ER K ⟨H, B, a, fun n => n = x, so, cl, 0⟩ B H (start N (.ref a :: vs)) (entX n x ds) := by
  have hl := r.length
  refine ⟨Same.refl _, Same.refl _, fun a h1 h2 => h2, e, ?_, fun _ => emp, ⟨fun i a o q => (nomatch q), fun i a q => absurd rfl q, fun i j a _ q => absurd rfl q, fun i s hs => ?_⟩⟩
  · unfold L2.start entX entE
    simp only [List.length_append, List.length_map, List.length_cons, List.length_replicate]
    omega
  · unfold entX at hs
    cases i with
    | zero =>
      cases hs
      refine ⟨?_, rfl⟩
      unfold L2.start
      rfl
    | succ i =>
      rw [List.getElem?_cons_succ] at hs
      unfold entE at hs
      by_cases hi : i < ds.length
      · rw [List.getElem?_append_left (by rw [List.length_map]; exact hi)] at hs
        obtain ⟨d, hd, rfl⟩ := map_at hs
        obtain ⟨v, hv, rv⟩ := r.at hd
        refine ⟨v, ?_, ?_⟩
        · unfold L2.start
          rw [List.map_cons, List.cons_append, List.getElem?_cons_succ, List.getElem?_append_left (by rw [List.length_map, hl]; exact hi), List.getElem?_map, hv]
          rfl
        · show Rep (LF K ⟨H, B, a, fun n => n = x, so, cl, 0⟩ B (scal d)) v d
          cases hsc : scal d with
          | true => exact Rep.scal rv hsc
          | false => exact rv
      · rw [List.getElem?_append_right (by rw [List.length_map]; omega), List.getElem?_replicate] at hs
        split at hs
        · cases hs; trivial
        · cases hs
theorem ER.plain {so : Addr → BS.Mem → HO} {cl : Nat → Addr} {a : Addr} {ec : Str → Prop} {B' H' : Hp} {σ : L2.St} {ρ : Ev} (E : ER K ⟨H, B, a, ec, so, cl, 0⟩ B' H' σ ρ) : ER K ⟨H, B, 0, fun _ => False, so, cl, 0⟩ B' H' σ (allU ρ) := by
  obtain ⟨F, f1, f2, f3, f4⟩ := E.ex
  refine ⟨E.e0, E.b0, E.n0, E.eB, by unfold allU; rw [List.length_map]; exact E.len, F, f1, f2, f3, fun i s hs => ?_⟩
  unfold allU at hs
  rw [List.getElem?_map] at hs
  cases q : ρ[i]? with
  | none => rw [q] at hs; cases hs
  | some u => rw [q] at hs; cases hs; trivial
theorem RR.plain {so : Addr → BS.Mem → HO} {cl : Nat → Addr} {a : Addr} {ec : Str → Prop} {B' H' T : Hp} {v : V} {s : Sl} (r : RR K ⟨H, B, a, ec, so, cl, 0⟩ B' H' T v s) : RR K ⟨H, B, 0, fun _ => False, so, cl, 0⟩ B' H' T v s := by
  cases s <;> first | exact r | exact r.elim
/-- such a def keeps the promise that its body's function makes -/
theorem FG.bodyX {cl : Nat → Addr} {x qual : Str} {st : Stmt} {F : SF} (Fn : Fun K x qual st f fd) (S : FnScope N ps (defScope st)) (n : Nat) (hn : ps.length = n + 1)
    (hb : ∀ (cdv : Value) (A : Around) (outer : List Env) (s : Shared) (H B : Hp) (E : XK) (ea : Addr) (ec : Str → Prop), (∀ y, ec y → ∃ C, mg y = some (.ref C) ∧ ExA base [] B ea C) → PySem.W.codeIn K cdv qual = true → Room k (A.deeper (envOfC qual (defScope st) s.heap.objs.size f cdv)) → (A.deeper (envOfC qual (defScope st) s.heap.objs.size f cdv)).guards = some [] →
      PSDs (cxOf (L2N.CX P w) P w K mg base N qual (defScope st) f cdv A outer s H E) ⟨H, B, ea, ec, BS.SetBO P w, cl, 0⟩ (fun c d _ H => E c d H) (defBody st) F) : FG P w K mg base (k + 1) f fd ps (spX K mg base n (callX N.length F)) := by
  refine FG.of Fn S (fun vs H Q E h => by rw [h.1, hn]) fun cdv A outer s H vs Q E hcd hr hg ⟨hl, a, ws, B, C, y, ds, r, ev, e, hy, ob, ra, hF, hok⟩ => ?_
  subst ev
  refine ⟨_, (hb cdv A outer s H B E a (fun n => n = y) (fun z hz => by subst hz; exact ⟨C, hy, ob⟩) hcd hr hg).pss, B, entX N.length y ds, ?_⟩
  have hpl : ps.length ≤ N.length := by have := congrArg List.length S.pre; rw [List.length_take] at this; omega
  have hle : ds.length + 1 ≤ N.length := by rw [← ra.length]; rw [List.length_cons] at hl; omega
  have E0 := entry_x (so := BS.SetBO P w) (cl := cl) (N := N) (a := a) (x := y) N.length e ra hle rfl
  unfold callX at hF
  split at hF
  · rename_i ρ' hr'
    cases hF
    exact ⟨_, E0, hr', fun σ' B' H' E' s' => hok .non H' emp E'.e0 (fun _ _ z => nomatch z) (fun _ z => absurd rfl z) .non⟩
  · rename_i s' hr'
    exact ⟨_, E0, hr', fun v σ' ρ' B' H' T E' s'' t1 t2 rr => ret_ok hF hok E'.plain t1 t2 rr.plain⟩
  · rename_i n ρ' hr'
    cases hF
    exact ⟨_, E0, hr', fun c σ' B' H' hc E' s'' => hok c H' hc E'.e0⟩
  · cases hF
end
structure HasX (P : Program) (w : World) (K : PySem.W.Frag) (mg : Str → Option Value) (base : Heap) (k : Nat) (x : Str) (ps : List Str) (n : Nat) (F : FX) : Prop where
  ex : ∃ f fd, FG P w K mg base k f fd ps (spX K mg base n F) ∧ mg x = some (.ref f) ∧ PySem.W.keepIn K (.ref f) = true ∧ Binds K fd ps []
section
variable {X : Cx} {H0 : En} {W : WX} {e a b o : Expr} {es : List Expr} {f g : EF} {fs : List EF} {pos p p2 cpos : Pos} {K : PySem.W.Frag} {B H B' H' : Hp} {σ : L2.St} {mg : Str → Option Value} {ρ : Ev} {j k n c i : Nat} {ps : List Str} {x y m : Str} {F : FX} {base : Heap}
/-- what the environment knows of its exception -/
def HeOk (X : Cx) (H0 : En) : Prop := ∀ y, H0.ec y → ∃ C, X.mg y = some (.ref C) ∧ ExA X.base X.pn H0.B H0.ea C
theorem pdIsEX {cv : Value} {u : V} {tab : Tab} (ht : IsOk X.K X.mg cv tab) (he : HeOk X H0) (hv : PE X (.Name x p) (tVar i)) (hc : PE X (.Name y p2) (tC u)) (hu : ∀ w, RelV u w → w = cv) (hm : X.mg "isinstance" = none) (hg : Gl X "isinstance" := by rfl)
    (hs : starEach [.Name x p, .Name y p2] X.env = (false, eval (.Name x p) X.env) :: starEach [.Name y p2] X.env := by rfl) (hs2 : starEach [.Name y p2] X.env = [(false, eval (.Name y p2) X.env)] := by rfl) :
    PD X H0 W (.Call (.Name "isinstance" cpos) [.Name x p, .Name y p2] [] pos) (eIsE i tab) := ⟨⟨fun pins s σ H Q I ⟨B, ρ, E, q⟩ => by
  obtain ⟨F, f1, f2, f3, f4⟩ := E.ex
  unfold eIsE at q
  split at q
  · rename_i n hn
    obtain ⟨e1, e2⟩ := f4 i _ hn
    cases hl : tab.lookup n with
    | none => rw [hl] at q; exact (okNone q).elim
    | some b =>
      rw [hl] at q
      obtain ⟨D, d1, d2, d3⟩ := ht n b hl
      obtain ⟨C, c1, c2⟩ := he n e2
      have ed : C = D := by
        have := c1.symm.trans d1
        cases this; rfl
      subst ed
      refine (pe_callB call_isA hg hm rfl (pa_cons hv (pa_cons hc pa_nil (by rw [hs2]; rfl)) hs) (he := hs) (hpl := by rw [hs2]; rfl)).run pins s σ H Q I ⟨_, e1, H0.ea, C, u, cv, b, rfl, c2.mono (E.b0.trans E.eB), d2, hu, d3, ?_⟩
      rcases q with ⟨s', h1, h2⟩ | ⟨m, h1, h2⟩
      · cases h1; exact h2.bl E.eB
      · cases h1
  · exact (okNone q).elim⟩⟩
theorem callX_out {ss : List Sl} {vs : List V} {Q : VK} {a C : Addr} (E : ER K H0 B H σ ρ) (hx : mg x = some (.ref C)) (ob : ExA base [] B a C) (rs : RZs K H0 B H vs ss) (hn : vs.length = n) (q : OK K mg H0 W B H σ (cRes (F x) ss) Q) : spX K mg base n F (.ref a :: vs) H Q (WE W σ) := by
  refine ⟨by rw [List.length_cons, hn], a, vs, ?_⟩
  unfold cRes at q
  split at q
  · rename_i ds hd
    split at q
    · rename_i d hF
      refine ⟨H, C, x, ds, _, rfl, Same.refl _, hx, ob.mono E.eB, rs.datsH E.eB hd, hF, fun v H' N s1 s2 s3 r => ?_⟩
      rcases q with ⟨s, h1, h2⟩ | ⟨m, h1, h2⟩
      · cases h1
        have nn : Nx B H B H' := ⟨Same.refl _, E.eB.trans s1, s1, fun _ h _ => h⟩
        split at h2
        · rename_i hs
          exact h2 v B H' emp nn TF.emp (Rep.scal r hs)
        · exact h2 v B H' N nn ⟨s2, fun a ha => ⟨s3 a ha, E.eB.free (s3 a ha)⟩⟩ r
      · cases h1
    · rename_i d hF
      split at q
      · rename_i hv
        refine ⟨B, C, x, ds, _, rfl, E.eB, hx, ob, rs.datsB hv hd, hF, fun v B' H' nn r => ?_⟩
        rcases q with ⟨s, h1, h2⟩ | ⟨m, h1, h2⟩
        · cases h1
          exact h2 v B' H' emp nn TF.emp r
        · cases h1
      · exact (okNone q).elim
    · rename_i m hF
      refine ⟨H, C, x, ds, _, rfl, Same.refl _, hx, ob.mono E.eB, rs.datsH E.eB hd, hF, fun c H' hc s1 => ?_⟩
      rcases q with ⟨s, h1, h2⟩ | ⟨m', h1, h2⟩
      · cases h1
      · cases h1
        exact h2 c B H' hc ⟨Same.refl _, E.eB.trans s1, s1, fun _ h _ => h⟩
    · exact (okNone q).elim
  · exact (okNone q).elim
/-- f(e, ..), e the parameter that is an exception -/
def eCallX (F : FX) (i : Nat) (fs : List EF) : EF := fun ρ => match ρ[i]? with
  | some (.exn y) => bzs (evs fs ρ) fun ss => cRes (F y) ss
  | _ => none
theorem pdCallX (ho : PE X o (tVar i)) (hpn : X.pn = []) (he : HeOk X H0) (h : HasX X.prog X.w X.K X.mg X.base j x ps n F) (hr : Room k X.A) (hgd : X.A.guards = some []) (tk : L2N.Takes X W) (ha : PDs X H0 W es fs) (hj : j ≤ k := by decide) (hn : fs.length = n := by rfl) (hg : Gl X x := by rfl)
    (hdb : (x == ("__debug__" : Str)) = false := by decide) (hst : starEach (o :: es) X.env = (false, eval o X.env) :: starEach es X.env := by rfl) (hpl : (backTo pos (starEach es X.env)).any (·.1) = false := by rfl) :
    PD X H0 W (.Call (.Name x p) (o :: es) [] pos) (eCallX F i fs) := by
  obtain ⟨f, fd, Fn, hm, hk, hb⟩ := h.ex
  refine ⟨peWeak (peCallG Fn (hr.mono hj) hgd hg hm hk hb tk (pa_cons ho ha.pa hst) hdb hst hpl) fun σ H Q ⟨B, ρ, E, q⟩ => ?_⟩
  obtain ⟨FF, f1, f2, f3, f4⟩ := E.ex
  unfold eCallX at q
  split at q
  · rename_i y hi
    obtain ⟨e1, e2⟩ := f4 i _ hi
    obtain ⟨C, c1, c2⟩ := he y e2
    rw [hpn] at c2
    refine ⟨_, e1, B, ρ, E, ?_⟩
    have q' : OK X.K X.mg H0 W B H σ (bzs (evs fs ρ) fun ss => cRes (F y) ss) Q := q
    cases r : evs fs ρ with
    | none => rw [r] at q'; exact (okNone q').elim
    | some oo =>
      rw [r] at q'
      cases oo with
      | ex m =>
        rcases q' with ⟨s, h1, h2⟩ | ⟨m', h1, h2⟩
        · cases h1
        · cases h1; exact .inr ⟨m, rfl, h2⟩
      | ok ss =>
        refine .inl ⟨ss, rfl, fun vs B1 H1 n1 rs => ?_⟩
        exact callX_out (E.nx n1) c1 (c2.mono (E.b0.trans n1.b)) rs (by rw [rs.len, evs_len r, hn]) (OK.nx q' n1)
  · exact (okNone q).elim
end
end PL
namespace PL
open PySem PySem.Spec PyProof.Rows L2
theorem _root_.L2H.RoomH.units {k : Nat} {A : Around} (r : L2H.RoomH k A) : A.units + 64 < cLine := by have := r.un; omega
/-- contracts of defs that are called with the handled exception ahead -/
structure FGH (P : Program) (w : World) (K : PySem.W.Frag) (mg : Str → Option Value) (base : Heap) (k : Nat) (f : Addr) (fd : FuncData) (ps : List Str) (sp : Addr × Obj → Sp) : Prop where
  len : ∀ p vs H Q E, sp p vs H Q E → vs.length = ps.length
  go : ∀ (A : Around) (outer : List Env) (s : Shared) (H : Hp) (args : Args) (us : List Value) (vs : List V) (Q : VK) (E : XK) (p : Addr × Obj), L2H.RoomH k A → A.guards = some [] → L2H.Hot1 A p → L2H.PinOk outer H s p → Env0 P w K mg base A outer s H → BindsTo s fd args (ps.zip us) → Vals vs us → sp p vs H Q E →
    codeAny (model P w) A (.call (.ref f) args) (CR (L2N.CX P w) outer P w H s Q E) s
section
variable {P : Program} {w : World} {K : PySem.W.Frag} {mg : Str → Option Value} {base : Heap} {k : Nat} {f : Addr} {fd : FuncData} {ps N : List Str} {sp : Addr × Obj → Sp}
abbrev cxHN (P : Program) (w : World) (K : PySem.W.Frag) (mg : Str → Option Value) (base : Heap) (N : List Str) (qual : Str) (scope : Scope) (f : Addr) (cd : Value) (A : Around) (outer : List Env) (s : Shared) (H : Hp) (E : XK) (p : Addr × Obj) : Cx := L2H.cxH (L2N.CX P w) P w K mg base N qual scope f cd A outer s H E p
theorem FGH.of {x qual : Str} {st : Stmt} (Fn : Fun K x qual st f fd) (S : FnScope N ps (defScope st)) (len : ∀ p vs H Q E, sp p vs H Q E → vs.length = ps.length)
    (hb : ∀ (cdv : Value) (A : Around) (outer : List Env) (s : Shared) (H : Hp) (vs : List V) (Q : VK) (E : XK) (p : Addr × Obj), L2H.Hot1 A p → L2H.RoomH k (A.deeper (envOfC qual (defScope st) s.heap.objs.size f cdv)) → (A.deeper (envOfC qual (defScope st) s.heap.objs.size f cdv)).guards = some [] → sp p vs H Q E →
      ∃ t, PSs (cxHN P w K mg base N qual (defScope st) f cdv A outer s H E p) (defBody st) t ∧ t { nx := fun _ H' => Q .non H', rt := Q } (start N vs) H) : FGH P w K mg base (k + 1) f fd ps sp := by
  obtain ⟨oc, od, kV, doc, pm, an, cdv, ct, osl, e1, lk, hcd⟩ := Fn.ex
  subst e1
  refine ⟨len, fun A outer s H args us vs Q E p hr hg hot hpin e0 hbd rv hsp => ?_⟩
  have hlen := len p vs H Q E hsp
  have KX : K.In s.heap := e0.mod.kin.keeps fun b o e => (e0.bs b o e).1
  have lim := e0.mod.nolimit.keeps (h' := s.heap) fun b o e => (e0.bs b o e).1
  have kinds : ∀ y ∈ ps.zip us, (defScope st).names.lookup y.1 = some .local ∨ ((defScope st).names.lookup y.1 = some .cell ∧ ((cellsFrom (s.heap.objs.size + 1) (defScope st).names []).lookup y.1).isSome = true) := by
    intro ⟨n, v⟩ hy
    rcases S.par n (List.of_mem_zip hy).1 with q | q
    · left; exact q
    · right; exact ⟨q, PySem.W.cellsFrom_some _ _ _ (.inl q)⟩
  refine codeAny_call_function hr.depth (KX _ _ lk) rfl S.co S.gen rfl (PySem.W.codeRec_of KX hcd) (hbd _ _ _ _ ?_)
  refine wpAny_newFunctionEnv_cells S.kind kinds fun env he s1 x => ?_
  subst he
  refine ⟨lim.keeps x.toInCall.keep, codeAny_func ?_⟩
  obtain ⟨t, ht, hq⟩ := hb cdv A outer s H vs Q E p hot (hr.deeper _) hg hsp
  have I := L2H.inv_startH (CX := L2N.CX P w) (qual := qual) (f := f) (cd := cdv) (outer := outer) (E := E) S hpin e0 hlen rv x
  refine wpAny_mono (ht.run [] s1 (start N vs) H _ I hq) (fun fl s' hs => ?_) fun e s' hs => hs
  cases fl with
  | brk => obtain ⟨_, _, _, z⟩ := hs; exact z.elim
  | cont => obtain ⟨_, _, _, z⟩ := hs; exact z.elim
  | ret u => obtain ⟨v, σ', H', J, r', z⟩ := hs; exact ⟨v, H', J.os, J.bare, J.base, J.hok, r', z⟩
  | next => obtain ⟨σ', H', J, z⟩ := hs; exact ⟨.non, H', J.os, J.bare, J.base, J.hok, rfl, z⟩
/-- what such a def promises -/
def spXH (K : PySem.W.Frag) (mg : Str → Option Value) (n : Nat) (F : FX) (p : Addr × Obj) : Sp := fun vs H Q E => vs.length = n + 1 ∧ ∃ ws B C x ds r, vs = .ref p.1 :: ws ∧ Same B H ∧ mg x = some (.ref C) ∧ ExP [p] p.1 C ∧ RepAll (LH K B) ws ds ∧ F x ds = some r ∧ FROk K mg B H Q E r
theorem FG.bodyXH {cl : Nat → Addr} {x qual : Str} {st : Stmt} {F : SF} (Fn : Fun K x qual st f fd) (S : FnScope N ps (defScope st)) (n : Nat) (hn : ps.length = n + 1)
    (hb : ∀ (cdv : Value) (A : Around) (outer : List Env) (s : Shared) (H B : Hp) (E : XK) (p : Addr × Obj) (ec : Str → Prop), L2H.Hot1 A p → (∀ y, ec y → ∃ C, mg y = some (.ref C) ∧ ExP [p] p.1 C) → L2H.RoomH k (A.deeper (envOfC qual (defScope st) s.heap.objs.size f cdv)) → (A.deeper (envOfC qual (defScope st) s.heap.objs.size f cdv)).guards = some [] →
      PSDs (cxHN P w K mg base N qual (defScope st) f cdv A outer s H E p) ⟨H, B, p.1, ec, BS.SetBO P w, cl, 0⟩ (fun c d _ H => E c d H) (defBody st) F) : FGH P w K mg base (k + 1) f fd ps (spXH K mg n (callX N.length F)) := by
  refine FGH.of Fn S (fun p vs H Q E h => by rw [h.1, hn]) fun cdv A outer s H vs Q E p hot hr hg ⟨hl, ws, B, C, y, ds, r, ev, e, hy, ob, ra, hF, hok⟩ => ?_
  subst ev
  refine ⟨_, (hb cdv A outer s H B E p (fun n => n = y) hot (fun z hz => by subst hz; exact ⟨C, hy, ob⟩) hr hg).pss, B, entX N.length y ds, ?_⟩
  have hpl : ps.length ≤ N.length := by have := congrArg List.length S.pre; rw [List.length_take] at this; omega
  have hle : ds.length + 1 ≤ N.length := by rw [← ra.length]; rw [List.length_cons] at hl; omega
  have E0 := entry_x (so := BS.SetBO P w) (cl := cl) (N := N) (a := p.1) (x := y) N.length e ra hle rfl
  unfold callX at hF
  split at hF
  · rename_i ρ' hr'
    cases hF
    exact ⟨_, E0, hr', fun σ' B' H' E' s' => hok .non H' emp E'.e0 (fun _ _ z => nomatch z) (fun _ z => absurd rfl z) .non⟩
  · rename_i s' hr'
    exact ⟨_, E0, hr', fun v σ' ρ' B' H' T E' s'' t1 t2 rr => ret_ok hF hok E'.plain t1 t2 rr.plain⟩
  · rename_i n ρ' hr'
    cases hF
    exact ⟨_, E0, hr', fun c σ' B' H' hc E' s'' => hok c H' hc E'.e0⟩
  · cases hF
end
theorem hec_of {p : Addr × Obj} {ec : Str → Prop} {mg : Str → Option Value} (he : ∀ y, ec y → ∃ C, mg y = some (.ref C) ∧ ExP [p] p.1 C) : ∀ y C, ec y → mg y = some (.ref C) → ExP [p] p.1 C := fun y C h1 h2 => by
  obtain ⟨C', a1, a2⟩ := he y h1
  rw [h2] at a1
  cases a1
  exact a2
structure HasXH (P : Program) (w : World) (K : PySem.W.Frag) (mg : Str → Option Value) (base : Heap) (k : Nat) (x : Str) (ps : List Str) (n : Nat) (F : FX) : Prop where
  ex : ∃ f fd, FGH P w K mg base k f fd ps (spXH K mg n F) ∧ mg x = some (.ref f) ∧ PySem.W.keepIn K (.ref f) = true ∧ Binds K fd ps []
section
variable {X : Cx} {H0 : En} {W : WX} {e a b o : Expr} {es : List Expr} {f g : EF} {fs : List EF} {pos p p2 cpos : Pos} {K : PySem.W.Frag} {B H B' H' : Hp} {σ : L2.St} {mg : Str → Option Value} {ρ : Ev} {j k n c i : Nat} {ps : List Str} {x y m : Str} {F : FX} {base : Heap} {fa : Addr} {fd : FuncData}
theorem runFGH {pins : List (Addr × Obj)} {s : Shared} {Q : VK} {us : List Value} {vs : List V} {sp : Addr × Obj → Sp} {q : Addr × Obj} (Fn : FGH X.prog X.w X.K X.mg X.base k fa fd ps sp) (hr : L2H.RoomH k X.A) (hg : X.A.guards = some []) (hot : L2H.Hot1 X.A q) (hq : q ∈ X.pn) (hb : Binds X.K fd ps []) (tk : L2N.Takes X W)
    (I : Inv X pins σ H s) (r : Vals vs us) (h : sp q vs H Q (WE W σ)) : wpAny (model X.prog X.w) X.A (call (.ref fa) us) (EP X pins σ Q) X.xe s := by
  have hl : us.length = ps.length := r.length.symm.trans (Fn.len _ _ _ _ _ h)
  have bnd := hb s us I.kIn (by simpa using hl)
  rw [List.append_nil] at bnd
  have P1 := I.pin q (List.mem_append_left _ hq)
  have hpin : L2H.PinOk X.stack H s q := ⟨P1.1, P1.2.1, fun hm => (List.mem_cons.mp (I.stkSub q.1 hm)).elim P1.2.2.1 P1.2.2.2.1, P1.2.2.2.2⟩
  refine wpAny_call (codeAny_mono (Fn.go X.A X.stack s H ⟨us, []⟩ us vs Q (WE W σ) q hr hg hot hpin I.env0 bnd r h) fun res s' hq => ?_)
  match res, hq with
  | .ok (.ret u), hq => exact I.after hq
  | .ok .next, hq => exact hq.elim
  | .ok .brk, hq => exact hq.elim
  | .ok .cont, hq => exact hq.elim
  | .error e, hq => exact L2N.passAt tk σ pins H s e s' I hq
/-- f(e, ..), e the exception that is handled; a scalar comes back -/
def xS (r : Option FR) : Option Rs := match r with
  | some (.ret true d) => some (.ok (if scal d = true then .val true d else .full d))
  | _ => none
def eCallXS (tn : List Str) (F : FX) (i : Nat) (fs : List EF) : EF := fun ρ => match ρ[i]? with
  | some (.exn y) => if y ∈ tn then bzs (evs fs ρ) fun ss => match dats ss with
    | some ds => xS (F y ds)
    | none => none
    else none
  | _ => none
theorem peCallXH {tn : List Str} {q : Addr × Obj} {tk' : L2N.Takes X W} (hot : L2H.Hot1 X.A q) (hq : q ∈ X.pn) (hcl : ∀ y ∈ tn, ∃ C, X.mg y = some (.ref C)) (hec : ∀ y C, H0.ec y → X.mg y = some (.ref C) → ExP [q] q.1 C) (hea : H0.ea = q.1)
    (ho : PE X o (tVar i)) (h : HasXH X.prog X.w X.K X.mg X.base j x ps n F) (hr : L2H.RoomH k X.A) (hgd : X.A.guards = some []) (ha : PDs X H0 W es fs) (hj : j ≤ k) (hn : fs.length = n) (hg : Gl X x)
    (hdb : (x == ("__debug__" : Str)) = false) (hst : starEach (o :: es) X.env = (false, eval o X.env) :: starEach es X.env) (hpl : (backTo pos (starEach es X.env)).any (·.1) = false) :
    PD X H0 W (.Call (.Name x p) (o :: es) [] pos) (eCallXS tn F i fs) := by
  obtain ⟨f, fd, Fn, hm, hk, hb⟩ := h.ex
  refine ⟨⟨fun pins s σ H Q I ⟨B, ρ, E, q'⟩ => ?_⟩⟩
  obtain ⟨FF, f1, f2, f3, f4⟩ := E.ex
  unfold eCallXS at q'
  split at q'
  · rename_i y hi
    obtain ⟨e1, e2⟩ := f4 i _ hi
    split at q'
    · rename_i hy
      obtain ⟨C, hC⟩ := hcl y hy
      have ob := hec y C e2 hC
      refine wpAny_Call_Name_kw (ld_glob I hg hm ?_ hdb)
      refine PySem.W.callWith_K (h₀ := X.base) I.ok.mod.kin hk (thn ((pa_cons ho ha.pa hst).run pos pins s σ H (fun vs H1 => spXH X.K X.mg n F q vs H1 Q (WE W σ)) I ⟨_, e1, B, ρ, E, ?_⟩) fun us s1 ⟨vs, H1, I1, r, hsp⟩ => ⟨I1.kIn, ?_⟩) hst hpl
      · cases r : evs fs ρ with
        | none => rw [r] at q'; exact (okNone q').elim
        | some oo =>
          rw [r] at q'
          cases oo with
          | ex m =>
            rcases q' with ⟨s, h1, h2⟩ | ⟨m', h1, h2⟩
            · cases h1
            · cases h1; exact .inr ⟨m, rfl, h2⟩
          | ok ss =>
            refine .inl ⟨ss, rfl, fun vs B1 H1 n1 rs => ?_⟩
            have q2 : OK X.K X.mg H0 W B1 H1 σ (match dats ss with | some ds => xS (F y ds) | none => none) Q := OK.nx q' n1
            cases hd : dats ss with
            | none => rw [hd] at q2; exact (okNone q2).elim
            | some ds =>
              rw [hd] at q2
              dsimp only at q2
              cases hF : F y ds with
              | none => rw [hF] at q2; exact (okNone q2).elim
              | some r =>
                rw [hF] at q2
                cases r with
                | exc m => exact (okNone q2).elim
                | ret fr d =>
                  cases fr with
                  | false => exact (okNone q2).elim
                  | true =>
                    unfold xS at q2
                    dsimp only at q2
                    rcases q2 with ⟨s, h1, h2⟩ | ⟨m', h1, h2⟩
                    · cases h1
                      refine ⟨by rw [List.length_cons, rs.len, evs_len r, hn], vs, H1, C, y, ds, _, by rw [hea], Same.refl _, hC, ob, rs.datsH n1.bh hd, hF, fun v H2 N s1 s2 s3 rv => ?_⟩
                      have nn : Nx B1 H1 B1 H2 := ⟨Same.refl _, n1.bh.trans s1, s1, fun _ h _ => h⟩
                      split at h2
                      · rename_i hs
                        exact h2 v B1 H2 emp nn TF.emp (Rep.scal rv hs)
                      · exact h2 v B1 H2 N nn ⟨s2, fun a ha => ⟨s3 a ha, n1.bh.free (s3 a ha)⟩⟩ rv
                    · cases h1
      · exact runFGH Fn ⟨by have := hr.dp; omega, by have := hr.un; omega⟩ hgd hot hq hb tk' I1 r hsp
    · exact (okNone q').elim
  · exact (okNone q').elim
/-- .. in the suite of the except clause -/
theorem pdCallXS {tn : List Str} {ad : Addr} {oe : Obj} {pn : List (Addr × Obj)} {cls : Value} (hz : L2N.Zn cls none oe) (hf : ∃ vs, oe.data = .fields vs) (hcl : ∀ y ∈ tn, ∃ C, X.mg y = some (.ref C))
    (ho : PE (X.suite ad ((ad, oe) :: pn)) o (tVar i)) (h : HasXH X.prog X.w X.K X.mg X.base j x ps n F) (hr : Room k X.A) (hgd : (X.suite ad ((ad, oe) :: pn)).A.guards = some []) (ha : PDs (X.suite ad ((ad, oe) :: pn)) (H0.at ad fun n => X.mg n = some cls) W0 es fs) (hj : j ≤ k := by decide) (hn : fs.length = n := by rfl) (hg : Gl (X.suite ad ((ad, oe) :: pn)) x := by rfl)
    (hdb : (x == ("__debug__" : Str)) = false := by decide) (hst : starEach (o :: es) X.env = (false, eval o X.env) :: starEach es X.env := by rfl) (hpl : (backTo pos (starEach es X.env)).any (·.1) = false := by rfl) :
    PD (X.suite ad ((ad, oe) :: pn)) (H0.at ad fun n => X.mg n = some cls) W0 (.Call (.Name x p) (o :: es) [] pos) (eCallXS tn F i fs) := by
  obtain ⟨vs, hf⟩ := hf
  refine peCallXH (X := X.suite ad ((ad, oe) :: pn)) (q := (ad, oe)) (tk' := takes0) ⟨rfl, vs, hf, hz.2.2 vs hf⟩ List.mem_cons_self hcl (fun y C h1 h2 => ?_) rfl ho h (k := k) ⟨hr.dp, hr.un⟩ hgd ha hj hn hg hdb hst hpl
  have ec : cls = .ref C := by
    have : some cls = some (Value.ref C) := (show X.mg y = some cls from h1).symm.trans h2
    exact Option.some.inj this
  subst ec
  exact ⟨oe, vs, List.mem_singleton.mpr rfl, hz.1, hz.2.1, hf⟩
/-- .. in such a def -/
theorem pdCallXH {tn : List Str} {q : Addr × Obj} (hot : L2H.Hot1 X.A q) (hq : X.pn = [q]) (hcl : ∀ y ∈ tn, ∃ C, X.mg y = some (.ref C)) (hec : ∀ y C, H0.ec y → X.mg y = some (.ref C) → ExP [q] q.1 C) (hea : H0.ea = q.1)
    (ho : PE X o (tVar i)) (h : HasXH X.prog X.w X.K X.mg X.base j x ps n F) (hr : L2H.RoomH k X.A) (hgd : X.A.guards = some []) (tk : L2N.Takes X W) (ha : PDs X H0 W es fs) (hj : j ≤ k := by decide) (hn : fs.length = n := by rfl) (hg : Gl X x := by rfl)
    (hdb : (x == ("__debug__" : Str)) = false := by decide) (hst : starEach (o :: es) X.env = (false, eval o X.env) :: starEach es X.env := by rfl) (hpl : (backTo pos (starEach es X.env)).any (·.1) = false := by rfl) :
    PD X H0 W (.Call (.Name x p) (o :: es) [] pos) (eCallXS tn F i fs) :=
  peCallXH (tk' := tk) hot (by rw [hq]; exact List.mem_cons_self) hcl hec hea ho h hr hgd ha hj hn hg hdb hst hpl
end
end PL
namespace PL
open PySem PySem.Spec PyProof.Rows L2
abbrev TabN := List (Nat × Str)
def NmOk (mg : Str → Option Value) (cl : Nat → Addr) (tn : TabN) : Prop := ∀ c y, tn.lookup c = some y → mg y = some (.ref (cl c))
theorem atI_map {α β : Type} (f : α → β) (xs : List α) (k : Int) : atI (xs.map f) k = (atI xs k).map f := by
  unfold atI
  rw [List.length_map]
  cases ixN xs.length k with
  | none => rfl
  | some j => show (xs.map f)[j]? = _; rw [List.getElem?_map]; rfl
theorem atI_two {α β : Type} {xs : List α} {ys : List β} {k : Int} {y : β} (hl : xs.length = ys.length) (h : atI ys k = some y) : ∃ (j : Nat) (x : α), atI xs k = some x ∧ xs[j]? = some x ∧ ys[j]? = some y := by
  unfold atI at h ⊢
  rw [hl]
  cases q : ixN ys.length k with
  | none => rw [q] at h; cases h
  | some j =>
    rw [q] at h
    have h : ys[j]? = some y := h
    have hj : j < xs.length := by rw [hl]; exact (List.getElem?_eq_some_iff.mp h).1
    exact ⟨j, xs[j], by show xs[j]? = _; simp [hj], by simp [hj], h⟩
section
variable {X : Cx} {H0 : En} {W : WX} {e a b o tg : Expr} {es : List Expr} {f g : EF} {fs : List EF} {pos p p2 cpos : Pos} {K : PySem.W.Frag} {B H B' H' : Hp} {σ : L2.St} {mg : Str → Option Value} {ρ : Ev} {j k n c i : Nat} {ps : List Str} {x y m : Str} {F : FX} {base : Heap} {tn : TabN}
/-- C(e) -/
def eMkX (c : Nat) (f : EF) : EF := fun ρ => bz (f ρ) fun s => match dat s with
  | some (.str m) => some (.ok (.cel (.exv c m)))
  | _ => none
structure MkX (K : PySem.W.Frag) (mg : Str → Option Value) (C : Addr) (x : Str) : Prop where
  q : PySem.W.excIn K C bmV "ValueError.__new__" = true
  g : mg x = some (.ref C)
  k : PySem.W.keepIn K (.ref C) = true
theorem made_nx {C ad t : Addr} {m : Str} (e : Same B H) (h1 : H ad = none) (h2 : H t = none) (hne : ad ≠ t) : Nx B H (upd (upd B t (.tup [.str m])) ad (exS C ad t)) (upd (upd H t (.tup [.str m])) ad (exS C ad t)) := by
  have g1 : (upd H t (.tup [.str m])) ad = none := by rw [upd_ne hne]; exact h1
  have g2 : (upd B t (.tup [.str m])) ad = none := by rw [upd_ne hne]; exact e.free h1
  refine ⟨(same_upd (e.free h2)).trans (same_upd g2), ?_, (same_upd h2).trans (same_upd g1), fun b q1 q2 => ?_⟩
  · refine same_upd2 ?_ upd_same
    refine Same.trans (same_upd2 (e.trans (same_upd h2)) upd_same) (same_upd g1)
  · rw [upd_ne (fun z => by subst z; exact q2 h1), upd_ne (fun z => by subst z; exact q2 h2)]
    exact q1
theorem pdMkX (M : MkX X.K X.mg (H0.cl c) x) (he : PD X H0 W e f) (hg : Gl X x := by rfl) (hs : starEach [e] X.env = (false, eval e X.env) :: starEach [] X.env := by rfl) (hdb : (x == ("__debug__" : Str)) = false := by decide) : PD X H0 W (.Call (.Name x p) [e] [] pos) (eMkX c f) :=
  ⟨peWeak (pe_exc1T PySem.F.excBase_ValueError M.q M.g M.k hg he.z hs hdb) fun σ H Q ⟨B, ρ, E, q⟩ => ⟨B, ρ, E, OK.bz q fun s v B1 H1 n1 r1 q1 => by
    split at q1
    · rename_i m hm
      have e1 := (r1.data n1.bh hm).strV
      rcases q1 with ⟨s, h1, h2⟩ | ⟨m', h1, h2⟩
      · cases h1
        refine ⟨m, e1, fun ad t ha ht hne => ?_⟩
        exact h2 (.ref ad) _ _ emp (made_nx n1.bh ha ht hne) TF.emp ⟨ad, t, rfl, exS_t upd_same, by rw [upd_ne hne.symm, upd_same]⟩
      · cases h1
    · exact (okNone q1).elim⟩⟩
/-- [C1(e), C2(e), ..] -/
def XsAt (H0 : En) (B : Hp) (cs : List Nat) (m : Str) (as : List Addr) : Prop := as.length = cs.length ∧ ∀ (i : Nat) a c, as[i]? = some a → cs[i]? = some c → ∃ t, ExT B a t (H0.cl c) ∧ B t = some (.tup [.str m])
def tXs (K : PySem.W.Frag) (mg : Str → Option Value) (H0 : En) (W : WX) (cs : List Nat) (f : EF) : TA := fun σ H Q => ∃ B ρ fr m, ER K H0 B H σ ρ ∧ f ρ = some (.ok (.val fr (.str m))) ∧ ∀ as B' H', Nx B H B' H' → XsAt H0 B' cs m as → Q (as.map V.ref) H'
structure PXs (X : Cx) (H0 : En) (W : WX) (es : List Expr) (cs : List Nat) (f : EF) : Prop where
  pa : PA X es (tXs X.K X.mg H0 W cs f)
theorem pxsNil : PXs X H0 W [] [] f := ⟨paWeak pa_nil fun σ H Q ⟨B, ρ, fr, m, E, h, q⟩ => q [] B H E.nx0 ⟨rfl, fun i a c h => nomatch h⟩⟩
theorem pxsCons {cs : List Nat} (M : MkX X.K X.mg (H0.cl c) x) (he : PD X H0 W e f) (hr : PXs X H0 W es cs f) (hg : Gl X x := by rfl) (hs : starEach [e] X.env = (false, eval e X.env) :: starEach [] X.env := by rfl) (hdb : (x == ("__debug__" : Str)) = false := by decide)
    (hst : starEach (.Call (.Name x p) [e] [] pos :: es) X.env = (false, eval (.Call (.Name x p) [e] [] pos) X.env) :: starEach es X.env := by rfl) : PXs X H0 W (.Call (.Name x p) [e] [] pos :: es) (c :: cs) f :=
  ⟨paWeak (pa_cons (pdMkX M he hg hs hdb).pe hr.pa hst) fun σ H Q ⟨B, ρ, fr, m, E, h, q⟩ => by
    refine ⟨B, ρ, E, .inl ⟨.cel (.exv c m), by unfold eMkX; rw [h]; rfl, fun v B1 H1 T n1 t1 r1 => ?_⟩⟩
    obtain ⟨a, t, rfl, h1, h2⟩ := r1
    refine ⟨B1, ρ, fr, m, E.nx n1, h, fun as B' H' n2 hx => ?_⟩
    refine q (a :: as) B' H' (n1.trans n2) ⟨congrArg (· + 1) hx.1, fun i b d g1 g2 => ?_⟩
    cases i with
    | zero => cases g1; cases g2; exact ⟨t, h1.mono n2.b, n2.b _ _ h2⟩
    | succ i => exact hx.2 i b d g1 g2⟩
def eLstX (cs : List Nat) (f : EF) : EF := fun ρ => match f ρ with
  | some (.ok (.val _ (.str m))) => if cs.length ≤ 16777216 then some (.ok (.cel (.exl cs m))) else none
  | _ => none
theorem pdLstX {cs : List Nat} (h : PXs X H0 W es cs f) : PD X H0 W (.List es pos) (eLstX cs f) := ⟨peWeak (pe_lst h.pa) fun σ H Q ⟨B, ρ, E, q⟩ => by
  unfold eLstX at q
  split at q
  · rename_i fr m hm
    split at q
    · rename_i hz
      rcases q with ⟨s, g1, g2⟩ | ⟨m', g1, g2⟩
      · cases g1
        refine ⟨B, ρ, fr, m, E, hm, fun as B' H' n hx => ⟨by rw [List.length_map, hx.1, sizeLine_eq]; exact hz, fun p hp => ?_⟩⟩
        have hBp : B' p = none := n.bh.free hp
        have s1 : Same B' (upd B' p (.lst (as.map V.ref))) := same_upd hBp
        refine g2 (.ref p) (upd B' p (.lst (as.map V.ref))) _ emp ⟨n.b.trans s1, same_upd2 (n.bh.trans (same_upd hp)) upd_same, n.h.trans (same_upd hp), fun b q1 q2 => ?_⟩ TF.emp ⟨p, as, rfl, upd_same, hx.1, fun i a c e1 e2 => ?_⟩
        · rw [upd_ne (fun z => by subst z; exact q2 (n.h.free hp))]
          exact n.no b q1 q2
        · obtain ⟨t, a1, a2⟩ := hx.2 i a c e1 e2
          exact ⟨t, a1.mono s1, s1 _ _ a2⟩
      · cases g1
    · exact (okNone q).elim
  · exact (okNone q).elim⟩
/-- a variable that holds an exception that was made -/
def eVX (i : Nat) : EF := fun ρ => match ρ[i]? with
  | some (.cel (.exv c m)) => some (.ok (.cel (.exv c m)))
  | _ => none
theorem pdVX (ho : PE X o (tVar i)) : PD X H0 W o (eVX i) := ⟨peWeak ho fun σ H Q ⟨B, ρ, E, q⟩ => by
  unfold eVX at q
  split at q
  · rename_i c m hi
    rcases q with ⟨s, h1, h2⟩ | ⟨m', h1, h2⟩
    · cases h1
      obtain ⟨v, N, e1, sN, cr, -⟩ := E.celAt hi
      exact ⟨v, e1, h2 v B H emp E.nx0 TF.emp cr⟩
    · cases h1
  · exact (okNone q).elim⟩
/-- xs[k] -/
def eXIx (i : Nat) (g : EF) : EF := fun ρ => match ρ[i]? with
  | some (.cel (.exl cs m)) => bz (g ρ) fun s => match dat s with
    | some (.int k) => match atI cs k with
      | some c => some (.ok (.cel (.exv c m)))
      | none => none
    | _ => none
  | _ => none
theorem pdXIx (ho : PE X o (tVar i)) (hb : PD X H0 W b g) (hs : PlainIx b := by exact fun _ _ => rfl) : PD X H0 W (.Subscript o b pos) (eXIx i g) := ⟨peWeak (pe_ix ix_list ho hb.z hs) fun σ H Q ⟨B, ρ, E, q⟩ => by
  unfold eXIx at q
  split at q
  · rename_i cs m hi
    obtain ⟨v, N, e1, sN, cr, -⟩ := E.celAt hi
    obtain ⟨p, as, rfl, hp, hl, hA⟩ := cr
    refine ⟨.ref p, e1, B, ρ, E, OK.bz q fun s v B1 H1 n1 r1 q1 => ?_⟩
    split at q1
    · rename_i k hk
      have e2 := (r1.data n1.bh hk).intV
      split at q1
      · rename_i c hc
        rcases q1 with ⟨s, h1, h2⟩ | ⟨m', h1, h2⟩
        · cases h1
          obtain ⟨j, a, a1, a2, a3⟩ := atI_two hl hc
          obtain ⟨t, t1, t2⟩ := hA j a c a2 a3
          exact ⟨p, as.map V.ref, k, .ref a, rfl, e2, SqL.of (n1.bh _ _ (n1.b _ _ hp)), by rw [atI_map, a1]; rfl, h2 (.ref a) B1 H1 emp (Nx.refl n1.bh) TF.emp ⟨a, t, rfl, t1.mono n1.b, n1.b _ _ t2⟩⟩
        · cases h1
      · exact (okNone q1).elim
    · exact (okNone q1).elim
  · exact (okNone q).elim⟩
/-- str(o) -/
def eStrX (tl : List Nat) (g : EF) : EF := fun ρ => match g ρ with
  | some (.ok (.cel (.exv c m))) => if c ∈ tl then some (.ok (.val true (.str m))) else none
  | _ => none
theorem pdStrX {tl : List Nat} (hS : ∀ c ∈ tl, StrC X.K (H0.cl c)) (hu : X.A.units + 2 < cLine) (ho : PD X H0 W o g) (hm : X.mg "str" = none) (hg : Gl X "str" := by rfl) (hs : starEach [o] X.env = [(false, eval o X.env)] := by rfl) : PD X H0 W (.Call (.Name "str" p) [o] [] pos) (eStrX tl g) :=
  ⟨peWeak (pe_callTy (call_strX hu) hg hm rfl (pa_cons ho.pe pa_nil (by rw [hs]; rfl)) (he := by rw [hs]; rfl) (hpl := by rfl)) fun σ H Q ⟨B, ρ, E, q⟩ => by
    unfold eStrX at q
    split at q
    · rename_i c m hm'
      split at q
      · rename_i hc
        rcases q with ⟨s, g1, g2⟩ | ⟨m', g1, g2⟩
        · cases g1
          refine ⟨B, ρ, E, .inl ⟨_, hm', fun v B1 H1 T n1 t1 r1 => ?_⟩⟩
          obtain ⟨a, t, rfl, h1, h2⟩ := r1
          exact ⟨a, t, H0.cl c, m, rfl, h1.mono n1.bh, n1.bh _ _ h2, hS c hc, g2 (.str m) B1 H1 emp n1 TF.emp (.str m)⟩
        · cases g1
      · exact (okNone q).elim
    · exact (okNone q).elim⟩
/-- isinstance(o, T) -/
def kIsV (tn : TabN) (tab : Tab) (c : Nat) : Option Rs := match tn.lookup c with
  | some y => match tab.lookup y with
    | some b => some (.ok (.val true (.bool b)))
    | none => none
  | none => none
def eIsV (tn : TabN) (tab : Tab) (g : EF) : EF := fun ρ => match g ρ with
  | some (.ok (.cel (.exv c m))) => kIsV tn tab c
  | _ => none
theorem pdIsV {cv : Value} {u : V} {tab : Tab} (ht : IsOk X.K X.mg cv tab) (hN : NmOk X.mg H0.cl tn) (ho : PD X H0 W o g) (hc : PE X (.Name y p2) (tC u)) (hu : ∀ w, RelV u w → w = cv) (hm : X.mg "isinstance" = none) (hg : Gl X "isinstance" := by rfl)
    (hs : starEach [o, .Name y p2] X.env = (false, eval o X.env) :: starEach [.Name y p2] X.env := by rfl) (hs2 : starEach [.Name y p2] X.env = [(false, eval (.Name y p2) X.env)] := by rfl) :
    PD X H0 W (.Call (.Name "isinstance" cpos) [o, .Name y p2] [] pos) (eIsV tn tab g) := ⟨⟨fun pins s σ H Q I ⟨B, ρ, E, q⟩ => by
  unfold eIsV at q
  split at q
  · rename_i c m hg'
    unfold kIsV at q
    cases hl : tn.lookup c with
    | none => rw [hl] at q; exact (okNone q).elim
    | some y =>
      rw [hl] at q
      dsimp only at q
      cases hl2 : tab.lookup y with
      | none => rw [hl2] at q; exact (okNone q).elim
      | some b =>
        rw [hl2] at q
        obtain ⟨D, d1, d2, d3⟩ := ht y b hl2
        have ed : D = H0.cl c := by
          have := d1.symm.trans (hN c y hl)
          cases this; rfl
        subst ed
        refine (pe_callB call_isA hg hm rfl (pa_cons ho.pe (pa_cons hc pa_nil (by rw [hs2]; rfl)) hs) (he := hs) (hpl := by rw [hs2]; rfl)).run pins s σ H Q I ⟨B, ρ, E, .inl ⟨_, hg', fun v B1 H1 T n1 t1 r1 => ?_⟩⟩
        obtain ⟨a, t, rfl, h1, h2⟩ := r1
        refine ⟨a, H0.cl c, u, cv, b, rfl, .inl (h1.k.mono n1.bh), d2, hu, d3, ?_⟩
        rcases q with ⟨s', g1, g2⟩ | ⟨m, g1, g2⟩
        · cases g1; exact g2 (.bl b) B1 H1 emp n1 TF.emp (.bl b)
        · cases g1
  · exact (okNone q).elim⟩⟩
/-- f(o, ..) -/
def eCallXV (tn : TabN) (F : FX) (g : EF) (fs : List EF) : EF := fun ρ => match g ρ with
  | some (.ok (.cel (.exv c m))) => match tn.lookup c with
    | some y => bzs (evs fs ρ) fun ss => cRes (F y) ss
    | none => none
  | _ => none
theorem pdCallXV (hN : NmOk X.mg H0.cl tn) (ho : PD X H0 W o g) (h : HasX X.prog X.w X.K X.mg X.base j x ps n F) (hr : Room k X.A) (hgd : X.A.guards = some []) (tk : L2N.Takes X W) (ha : PDs X H0 W es fs) (hj : j ≤ k := by decide) (hn : fs.length = n := by rfl) (hg : Gl X x := by rfl)
    (hdb : (x == ("__debug__" : Str)) = false := by decide) (hst : starEach (o :: es) X.env = (false, eval o X.env) :: starEach es X.env := by rfl) (hpl : (backTo pos (starEach es X.env)).any (·.1) = false := by rfl) :
    PD X H0 W (.Call (.Name x p) (o :: es) [] pos) (eCallXV tn F g fs) := by
  obtain ⟨f, fd, Fn, hm, hk, hb⟩ := h.ex
  refine ⟨peWeak (peCallG Fn (hr.mono hj) hgd hg hm hk hb tk (pa_cons ho.pe ha.pa hst) hdb hst hpl) fun σ H Q ⟨B, ρ, E, q⟩ => ?_⟩
  unfold eCallXV at q
  split at q
  · rename_i c m hi
    split at q
    · rename_i y hy
      refine ⟨B, ρ, E, .inl ⟨_, hi, fun v B1 H1 T n1 t1 r1 => ?_⟩⟩
      obtain ⟨a, t, rfl, h1, h2⟩ := r1
      have E1 := E.nx n1
      refine ⟨B1, ρ, E1, ?_⟩
      have q' : OK X.K X.mg H0 W B1 H1 σ (bzs (evs fs ρ) fun ss => cRes (F y) ss) Q := OK.nx q n1
      cases r : evs fs ρ with
      | none => rw [r] at q'; exact (okNone q').elim
      | some oo =>
        rw [r] at q'
        cases oo with
        | ex m =>
          rcases q' with ⟨s, h1, h2⟩ | ⟨m', h1, h2⟩
          · cases h1
          · cases h1; exact .inr ⟨m, rfl, h2⟩
        | ok ss =>
          refine .inl ⟨ss, rfl, fun vs B2 H2 n2 rs => ?_⟩
          exact callX_out (E1.nx n2) (hN c y hy) (.inl (h1.k.mono n2.b)) rs (by rw [rs.len, evs_len r, hn]) (OK.nx q' n2)
    · exact (okNone q).elim
  · exact (okNone q).elim
/-- for x in xs -/
def iX (i : Nat) : IF := fun ρ => match ρ[i]? with
  | some (.cel (.exl cs m)) => some (.ok (cs.map fun c => .cel (.exv c m)))
  | _ => none
theorem pidX (ho : PE X o (tVar i)) : PID X H0 W tg o (iX i) := ⟨piWeak (pi_list ho) fun σ H R ⟨B, ρ, E, q⟩ => by
  unfold iX at q
  split at q
  · rename_i cs m hi
    obtain ⟨v, N, e1, sN, cr, -⟩ := E.celAt hi
    obtain ⟨p, as, rfl, hp, hl, hA⟩ := cr
    rcases q with ⟨its, h1, h2⟩ | ⟨m', h1, h2⟩
    · cases h1
      refine ⟨.ref p, e1, p, rfl, ⟨_, SqL.of (E.eB _ _ hp)⟩, h2 (Itl X.K p) B H E.nx0 ⟨fun j B' H' s1 s2 hj => ?_, fun j B' H' x H'' u s1 s2 s3 hu hy => ?_, fun j B' H' s1 s2 hj => ?_⟩⟩
      · rw [List.length_map, ← hl] at hj
        exact ⟨as.map V.ref, .ref as[j], SqL.of (s2 _ _ (s1 _ _ hp)), by simp [hj]⟩
      · obtain ⟨rfl, hy⟩ := hy
        obtain ⟨c, hc, rfl⟩ := map_at hu
        have e := hy (as.map V.ref) (SqL.of (s2 _ _ (s1 _ _ hp)))
        rw [List.getElem?_map] at e
        cases ha : as[j]? with
        | none => rw [ha] at e; cases e
        | some a =>
          rw [ha] at e
          cases e
          obtain ⟨t, t1, t2⟩ := hA j a c ha hc
          exact ⟨B', Nx.refl s2, a, t, rfl, t1.mono s1, s1 _ _ t2⟩
      · rw [List.length_map, ← hl] at hj
        exact ⟨as.map V.ref, SqL.of (s2 _ _ (s1 _ _ hp)), by rw [List.length_map]; exact hj⟩
    · cases h1
  · rcases q with ⟨its, h1, h2⟩ | ⟨m', h1, h2⟩ <;> cases h1⟩
end
end PL
namespace PL
open PySem PySem.Spec PyProof.Rows L2
/-- text * int -/
noncomputable def fMulT (x y : Sl) : Option Sl := match dat x with
  | some (.str a) => match dat y with
    | some (.int i) => if cd (1 ≤ i ∧ i ≤ 100000 ∧ a.length ≤ 100) = true then some (.val true (.str (Txt.mul a i))) else none
    | _ => none
  | _ => none
theorem mulOk_of {a : Str} {i : Int} (h1 : 1 ≤ i) (h2 : i ≤ 100000) (h3 : a.length ≤ 100) : MulOk a i := by
  refine ⟨?_, fun _ _ => ?_, fun _ _ => ?_⟩
  · rw [decide_eq_false (by omega), decide_eq_false (by omega)]; rfl
  · have : (100 : Int) ≤ (2 ^ 63 - 1) / i := by
      rw [Int.le_ediv_iff_mul_le (by omega)]
      omega
    omega
  · have e : a.length * i.toNat ≤ 100 * 100000 := Nat.mul_le_mul h3 (by omega)
    unfold PySem.Builtin.Str.tooLong
    generalize a.length * i.toNat = k at e
    first
      | exact decide_eq_false (by rw [sizeLine_eq]; omega)
      | (rw [sizeLine_eq]; simp; omega)
      | (simp; omega)
def rMulT : R2 := fun x y H Q => ∃ a i, x = .str a ∧ y = .int i ∧ MulOk a i ∧ Q (.str (Txt.mul a i)) H
theorem opMulT {X : Cx} : OpR X (binaryOp .Mult) rMulT := by
  intro pins s σ H x y v u Q I rx ry h
  obtain ⟨a, i, rfl, rfl, ok, q⟩ := h
  obtain ⟨t, rfl⟩ := rx
  obtain ⟨t2, rfl⟩ := ry
  exact PySem.SB.mul ok fun t' k => ⟨.str (Txt.mul a i), H, I.tok _, ⟨t', rfl⟩, q⟩
theorem op2MulT {X : Cx} {H0 : En} : Op2 X H0 rMulT fMulT := by
  intro B H x y v w s Q e0 eB r1 r2 hf hq
  unfold fMulT at hf
  split at hf
  · rename_i a ha
    split at hf
    · rename_i i hi
      split at hf
      · rename_i hz
        cases hf
        obtain ⟨h1, h2, h3⟩ := of_cd hz
        exact ⟨a, i, (r1.data eB ha).strV, (r2.data eB hi).intV, mulOk_of h1 h2 h3, hq.str eB⟩
      · cases hf
    · cases hf
  · cases hf
theorem pdMulT {X : Cx} {H0 : En} {W : WX} {a b : Expr} {f g : EF} {pos : Pos} (ha : PD X H0 W a f) (hb : PD X H0 W b g) : PD X H0 W (.BinOp a .Mult b pos) (e2 fMulT f g) := pd2 ha hb op2MulT fun pa pb => pe_op opMulT pa pb
def NmAll (mg : Str → Option Value) (cl : Nat → Addr) : TabN → Prop
  | [] => True
  | (c, y) :: r => mg y = some (.ref (cl c)) ∧ NmAll mg cl r
theorem nmOk_of {mg : Str → Option Value} {cl : Nat → Addr} : ∀ {tn : TabN}, NmAll mg cl tn → NmOk mg cl tn
  | [], _ => fun c y h => by cases h
  | (c', y') :: r, ⟨h1, h2⟩ => fun c y h => by
    rw [List.lookup_cons] at h
    split at h
    · rename_i hb
      cases h
      have : c = c' := by simpa using hb
      subst this
      exact h1
    · exact nmOk_of h2 c y h
def TxAll (mg : Str → Option Value) : List Str → Prop
  | [] => True
  | y :: r => (∃ C, mg y = some (.ref C)) ∧ TxAll mg r
theorem txOk_of {mg : Str → Option Value} : ∀ {tn : List Str}, TxAll mg tn → ∀ y ∈ tn, ∃ C, mg y = some (.ref C)
  | [], _, y, h => by cases h
  | z :: r, ⟨h1, h2⟩, y, h => by
    rcases List.mem_cons.mp h with rfl | h
    · exact h1
    · exact txOk_of h2 y h
def StAll (K : PySem.W.Frag) (cl : Nat → Addr) : List Nat → Prop
  | [] => True
  | c :: r => StrC K (cl c) ∧ StAll K cl r
theorem stOk_of {K : PySem.W.Frag} {cl : Nat → Addr} : ∀ {tl : List Nat}, StAll K cl tl → ∀ c ∈ tl, StrC K (cl c)
  | [], _, y, h => by cases h
  | z :: r, ⟨h1, h2⟩, y, h => by
    rcases List.mem_cons.mp h with rfl | h
    · exact h1
    · exact stOk_of h2 y h
theorem u2 {n : Nat} (h : n + 64 < cLine) : n + 2 < cLine := by omega
theorem ev_mulT {a : Str} {i : Int} {fr fr' : Bool} (h1 : 1 ≤ i) (h2 : i ≤ 100000) (h3 : a.length ≤ 100) : fMulT (.val fr (.str a)) (.val fr' (.int i)) = some (.val true (.str (Txt.mul a i))) := if_pos (cd_true ⟨h1, h2, h3⟩)
theorem callX_eq (n : Nat) (F : SF) (x : Str) (ds : List PyData) : callX n F x ds = kF (F (.exn x :: entE (n - 1) ds)) := rfl
def kCX (F : FX) (o : Option Sl) (r : Option Ra) : Option Rs := match o with
  | some (.exn y) => bzs r fun ss => cRes (F y) ss
  | _ => none
theorem ev_callX (F : FX) (i : Nat) (fs : List EF) (ρ : Ev) : eCallX F i fs ρ = kCX F ρ[i]? (evs fs ρ) := by unfold eCallX kCX; rfl
theorem kCX_ok (F : FX) (y : Str) (ss : List Sl) : kCX F (some (.exn y)) (some (.ok ss)) = cRes (F y) ss := rfl
def kXs2 (F : FX) (y : Str) (o : Option (List PyData)) : Option Rs := match o with
  | some ds => xS (F y ds)
  | none => none
def kCXS (tn : List Str) (F : FX) (o : Option Sl) (r : Option Ra) : Option Rs := match o with
  | some (.exn y) => if y ∈ tn then bzs r fun ss => kXs2 F y (dats ss) else none
  | _ => none
theorem ev_callXS (tn : List Str) (F : FX) (i : Nat) (fs : List EF) (ρ : Ev) : eCallXS tn F i fs ρ = kCXS tn F ρ[i]? (evs fs ρ) := by unfold eCallXS kCXS; rfl
theorem kCXS_ok {tn : List Str} {F : FX} {y : Str} {ss : List Sl} (h : y ∈ tn) : kCXS tn F (some (.exn y)) (some (.ok ss)) = kXs2 F y (dats ss) := by
  show (if y ∈ tn then _ else _) = _
  rw [if_pos h]; rfl
theorem kXs2_some (F : FX) (y : Str) (ds : List PyData) : kXs2 F y (some ds) = xS (F y ds) := rfl
theorem xS_bool (b : Bool) : xS (some (.ret true (.bool b))) = some (.ok (.val true (.bool b))) := rfl
def kMX (c : Nat) (o : Option Rs) : Option Rs := bz o fun s => match dat s with
  | some (.str m) => some (.ok (.cel (.exv c m)))
  | _ => none
theorem ev_mkX (c : Nat) (f : EF) (ρ : Ev) : eMkX c f ρ = kMX c (f ρ) := rfl
theorem kMX_ok (c : Nat) (fr : Bool) (m : Str) : kMX c (some (.ok (.val fr (.str m)))) = some (.ok (.cel (.exv c m))) := rfl
def kLX (cs : List Nat) (o : Option Rs) : Option Rs := match o with
  | some (.ok (.val _ (.str m))) => if cs.length ≤ 16777216 then some (.ok (.cel (.exl cs m))) else none
  | _ => none
theorem ev_lstX (cs : List Nat) (f : EF) (ρ : Ev) : eLstX cs f ρ = kLX cs (f ρ) := by unfold eLstX kLX; rfl
theorem kLX_ok {cs : List Nat} {fr : Bool} {m : Str} (h : cs.length ≤ 16777216) : kLX cs (some (.ok (.val fr (.str m)))) = some (.ok (.cel (.exl cs m))) := if_pos h
def kVX (o : Option Sl) : Option Rs := match o with
  | some (.cel (.exv c m)) => some (.ok (.cel (.exv c m)))
  | _ => none
theorem ev_vX (i : Nat) (ρ : Ev) : eVX i ρ = kVX ρ[i]? := by unfold eVX kVX; rfl
theorem kVX_ok (c : Nat) (m : Str) : kVX (some (.cel (.exv c m))) = some (.ok (.cel (.exv c m))) := rfl
def kXI2 (m : Str) (o : Option Nat) : Option Rs := match o with
  | some c => some (.ok (.cel (.exv c m)))
  | none => none
def kXI (o : Option Sl) (r : Option Rs) : Option Rs := match o with
  | some (.cel (.exl cs m)) => bz r fun s => match dat s with
    | some (.int k) => kXI2 m (atI cs k)
    | _ => none
  | _ => none
theorem ev_xIx (i : Nat) (g : EF) (ρ : Ev) : eXIx i g ρ = kXI ρ[i]? (g ρ) := by unfold eXIx kXI kXI2; rfl
theorem kXI_ok (cs : List Nat) (m : Str) (fr : Bool) (k : Int) : kXI (some (.cel (.exl cs m))) (some (.ok (.val fr (.int k)))) = kXI2 m (atI cs k) := rfl
theorem kXI2_some (m : Str) (c : Nat) : kXI2 m (some c) = some (.ok (.cel (.exv c m))) := rfl
def kSX (tl : List Nat) (o : Option Rs) : Option Rs := match o with
  | some (.ok (.cel (.exv c m))) => if c ∈ tl then some (.ok (.val true (.str m))) else none
  | _ => none
theorem ev_strX (tl : List Nat) (g : EF) (ρ : Ev) : eStrX tl g ρ = kSX tl (g ρ) := by unfold eStrX kSX; rfl
theorem kSX_ok {tl : List Nat} {c : Nat} {m : Str} (h : c ∈ tl) : kSX tl (some (.ok (.cel (.exv c m)))) = some (.ok (.val true (.str m))) := if_pos h
def kIV (tn : TabN) (tab : Tab) (o : Option Rs) : Option Rs := match o with
  | some (.ok (.cel (.exv c m))) => kIsV tn tab c
  | _ => none
theorem ev_isV (tn : TabN) (tab : Tab) (g : EF) (ρ : Ev) : eIsV tn tab g ρ = kIV tn tab (g ρ) := by unfold eIsV kIV; rfl
theorem kIV_ok (tn : TabN) (tab : Tab) (c : Nat) (m : Str) : kIV tn tab (some (.ok (.cel (.exv c m)))) = kIsV tn tab c := rfl
def kCV2 (F : FX) (o : Option Str) (r : Option Ra) : Option Rs := match o with
  | some y => bzs r fun ss => cRes (F y) ss
  | none => none
def kCV (tn : TabN) (F : FX) (o : Option Rs) (r : Option Ra) : Option Rs := match o with
  | some (.ok (.cel (.exv c m))) => kCV2 F (tn.lookup c) r
  | _ => none
theorem ev_callXV (tn : TabN) (F : FX) (g : EF) (fs : List EF) (ρ : Ev) : eCallXV tn F g fs ρ = kCV tn F (g ρ) (evs fs ρ) := by unfold eCallXV kCV kCV2; rfl
theorem kCV_ok (tn : TabN) (F : FX) (c : Nat) (m : Str) (r : Option Ra) : kCV tn F (some (.ok (.cel (.exv c m)))) r = kCV2 F (tn.lookup c) r := rfl
theorem kCV2_ok (F : FX) (y : Str) (ss : List Sl) : kCV2 F (some y) (some (.ok ss)) = cRes (F y) ss := rfl
def kIX (o : Option Sl) : Option Ri := match o with
  | some (.cel (.exl cs m)) => some (.ok (cs.map fun c => .cel (.exv c m)))
  | _ => none
theorem ev_iX (i : Nat) (ρ : Ev) : iX i ρ = kIX ρ[i]? := by unfold iX kIX; rfl
theorem kIX_ok (cs : List Nat) (m : Str) : kIX (some (.cel (.exl cs m))) = some (.ok (cs.map fun c => .cel (.exv c m))) := rfl
end PL
namespace PL
open PySem PySem.Spec PyProof.Rows L2
section
variable {X : Cx} {H0 : En} {W : WX} {e a b o : Expr} {es : List Expr} {f g : EF} {fs : List EF} {pos p p2 cpos : Pos} {K : PySem.W.Frag} {B H B' H' : Hp} {σ : L2.St} {mg : Str → Option Value} {ρ : Ev} {j k n c i : Nat} {ps : List Str} {x y m : Str} {F : FX} {base : Heap}
theorem pdCallX' {tn : List Str} (ho : PE X o (tVar i)) (hpn : X.pn = []) (he : HeOk X H0) (h : HasX X.prog X.w X.K X.mg X.base j x ps n F) (hr : Room k X.A) (hgd : X.A.guards = some []) (tk : L2N.Takes X W) (ha : PDs X H0 W es fs) (hj : j ≤ k := by decide) (hn : fs.length = n := by rfl) (hg : Gl X x := by rfl)
    (hdb : (x == ("__debug__" : Str)) = false := by decide) (hst : starEach (o :: es) X.env = (false, eval o X.env) :: starEach es X.env := by rfl) (hpl : (backTo pos (starEach es X.env)).any (·.1) = false := by rfl) :
    PD X H0 W (.Call (.Name x p) (o :: es) [] pos) (eCallXS tn F i fs) :=
  ⟨peWeak (pdCallX ho hpn he h hr hgd tk ha hj hn hg hdb hst hpl).pe fun σ H Q ⟨B, ρ, E, q⟩ => ⟨B, ρ, E, by
    unfold eCallXS at q
    unfold eCallX
    split at q
    · split at q
      · rename_i y hi hy
        try simp only [hi]
        cases r : evs fs ρ with
        | none => rw [r] at q; exact (okNone q).elim
        | some oo =>
          rw [r] at q
          cases oo with
          | ex m => exact q
          | ok ss =>
            have q2 : OK X.K X.mg H0 W B H σ (match dats ss with | some ds => xS (F y ds) | none => none) Q := q
            show OK X.K X.mg H0 W B H σ (cRes (F y) ss) Q
            unfold cRes
            cases hd : dats ss with
            | none => rw [hd] at q2; exact (okNone q2).elim
            | some ds =>
              rw [hd] at q2
              dsimp only at q2 ⊢
              cases hF : F y ds with
              | none => rw [hF] at q2; exact (okNone q2).elim
              | some r =>
                rw [hF] at q2
                cases r with
                | exc m => exact (okNone q2).elim
                | ret fr d =>
                  cases fr with
                  | false => exact (okNone q2).elim
                  | true => exact q2
      · exact (okNone q).elim
    · exact (okNone q).elim⟩⟩
/-- what is walked there -/
structure PIDH (X : Cx) (H0 : En) (W : WX) (tg e : Expr) (g : IF) : Prop where
  pi : L2H.PIH X tg e (tI X.K X.mg H0 W g)
theorem pidR1H {tg : Expr} {p : Pos} (hm : X.mg "range" = none) (ha : PDs X H0 W [a] [f]) (hg : Gl X "range" := by rfl) (hs : starEach [a] X.env = [(false, eval a X.env)] := by rfl) : PIDH X H0 W tg (.Call (.Name "range" p) [a] [] pos) (iR [f]) := ⟨⟨fun pins s σ H R I ⟨B, ρ, E, q⟩ => (L2H.pi_range1H hg hm ha.pa hs).run pins s σ H R I ⟨B, ρ, E, by
  have z := ir_ok E q
  have one : ∀ ss, evs [f] ρ = some (.ok ss) → ss.length = 1 := fun ss h => by
    unfold evs at h
    split at h
    · unfold evs at h; cases h; rfl
    · cases h
    · cases h
  rcases z with ⟨ss, h1, h2⟩ | ⟨n, h1, h2⟩
  · refine .inl ⟨ss, h1, fun vs B' H' n rs => ?_⟩
    rcases h2 vs B' H' n rs with ⟨j, e, s, r⟩ | ⟨i, j, e, s, s', r⟩
    · exact ⟨j, e, (small_ok s).1, (small_ok s).2, r⟩
    · exfalso
      have l1 := one ss h1
      subst e
      cases rs with
      | cons _ rs => cases rs with
        | cons _ rs => cases rs; cases l1
  · exact .inr ⟨n, h1, h2⟩⟩⟩⟩
end
/-- a block's context, that bears what is pinned -/
abbrev blkP (X : Cx) (s : Shared) (H : Hp) (scope : Scope) (cenv : Env) (fp : List Addr) : Cx := { X.blk s H scope cenv fp with pn := X.pn }
section
variable {X : Cx}
theorem lc_coreH {pins : List (Addr × Obj)} {s : Shared} {σ : L2.St} {H : Hp} {Q : VK} {elt tg iter : Expr} {ifs : List Expr} {scope : Scope} {own : List (Str × Nat)} {pos pos' : Pos} {wi : TI} {g : TG} {tt : TT} {te : TE} {use : Option (Value → Sem Unit)} {Qf : Value → Shared → Prop}
    (hc : L2H.HotC X) (hN : X.N.Nodup) (I : Inv X pins σ H s) (hi : L2H.PIH X tg iter wi) (ok : BlkOk X.N X.env.scope scope own)
    (hg : ∀ (s : Shared) (H : Hp) (C : Addr) (cl : List (Str × Addr)) (fp : List Addr), PG (blkP X s H scope (compEnvC scope cl C X.env) fp) tg g) (ht : ∀ (s : Shared) (H : Hp) (C : Addr) (cl : List (Str × Addr)) (fp : List Addr), PTs (blkP X s H scope (compEnvC scope cl C X.env) fp) ifs tt)
    (he : ∀ (s : Shared) (H : Hp) (C : Addr) (cl : List (Str × Addr)) (fp : List Addr), PE (blkP X s H scope (compEnvC scope cl C X.env) fp) elt te) (hs : ∀ x, foldedSetIterable iter X.env x = pure x)
    (h : tLc wi g tt te (own.map (·.2)) σ H Q)
    (hRR : ∀ D C s' m H', Inv X pins σ H' s' → Q (.ref D) H' → s'.heap.Ns C m → FpOk X pins H' C → compPost (model X.prog X.w) X.A X.xe use Qf (.ref D) C (.ok .next) s') :
    wpAny (model X.prog X.w) X.A (comprehension (.ListComp elt [⟨tg, iter, ifs, 0⟩] scope pos) scope X.env pos' (newList []) false (eval iter X.env) use) Qf X.xe s := by
  have hfree : ∀ y ∈ scope.names, y.2 = .free → ∃ c, X.env.cells.lookup y.1 = some c := fun y hy e => (ok.free y hy e).elim (fun k => I.ok.has _ (.inl k)) fun k => I.ok.has _ (.inr k)
  refine wpAny_comprehension_free (use := use) rfl hs (closure_ok hfree) ok.kind (fun y hy e => by rw [ok.uniq y hy, e])
    (thn (hi.run pins s σ H _ I h) fun xv s1 hx => thn hx fun itv s2 h2 => ?_)
  obtain ⟨it, fp, tn, J, H2, e, I2, T, st2, f2, q⟩ := h2
  subst e
  refine wpAny_newObj_type (newEnv_comp ?_) (by show 0 ≤ sizeLine; decide)
  obtain ⟨D, hD⟩ : ∃ D, s2.heap.objs.size = D := ⟨_, rfl⟩
  rw [hD]
  have hDn : H2 D = none := I2.hok.fresh (Nat.le_of_eq hD)
  obtain ⟨Wt, ⟨m0, w0⟩, turn⟩ := q D hDn
  obtain ⟨s3, hs3⟩ : ∃ s3 : Shared, ({ s2 with heap := s2.heap.push { cls := .type "list", data := .seq ([] : List Value).toArray } } : Shared) = s3 := ⟨_, rfl⟩
  have h3 : s3.heap = s2.heap.push { cls := .type "list", data := .seq ([] : List Value).toArray } := by rw [← hs3]
  have I3 : Inv X pins σ (upd H2 D (.lst [])) s3 := by
    rw [← hs3]
    refine I2.laid (t' := s2.toks) (fun b o e => Heap.get?_push_of_some _ e) (Nat.le_of_eq hD) ⟨Nat.zero_le _, [], 0, .nil, ?_⟩
    rw [← hD]
    exact Heap.get?_push_size _ rfl
  rw [hs3]
  have f3 : ∀ b ∈ fp, FpOk X pins (upd H2 D (.lst [])) b ∧ b < s3.heap.objs.size := fun b hb => by
    obtain ⟨o, e, _⟩ := T.obj _ _ st2 b hb
    have hlt := Heap.lt_size e
    refine ⟨⟨?_, (f2 b hb).2⟩, by rw [h3, Heap.size_push]; exact Nat.lt_succ_of_lt hlt⟩
    rw [upd_ne (by rw [← hD]; exact Nat.ne_of_lt hlt)]
    exact (f2 b hb).1
  have st3 : tn 0 s3.heap := T.keep _ _ _ st2 fun b _ o e => by rw [h3]; exact Heap.get?_push_of_some _ e
  have I4 := block_start I3 ok hN f3
  have pg := hg s3 (upd H2 D (.lst [])) s3.heap.objs.size (cellsFrom (s3.heap.objs.size + 1) scope.names (cloFrom X.env.cells scope.names [])) fp
  have pt := ht s3 (upd H2 D (.lst [])) s3.heap.objs.size (cellsFrom (s3.heap.objs.size + 1) scope.names (cloFrom X.env.cells scope.names [])) fp
  have pe := he s3 (upd H2 D (.lst [])) s3.heap.objs.size (cellsFrom (s3.heap.objs.size + 1) scope.names (cloFrom X.env.cells scope.names [])) fp
  show codeAny _ _ (.compStart (.ListComp elt [⟨tg, iter, ifs, 0⟩] scope pos) 0 (.ref it) (.ref D) (compEnvC scope (cellsFrom (s3.heap.objs.size + 1) scope.names (cloFrom X.env.cells scope.names [])) s3.heap.objs.size X.env)) (compPost (model X.prog X.w) X.A X.xe use Qf (.ref D) s3.heap.objs.size) { s3 with heap := pushCells (s3.heap.push { cls := .type "dict", data := .dict #[] }) scope.names }
  have nfp : ∀ b ∈ fp, (upd H2 D (.lst [])) b = none := fun b hb => (f3 b hb).1.1
  have pinsX : ∀ q ∈ X.pn, s3.heap.get? q.1 = some q.2 ∧ (upd H2 D (.lst [])) q.1 = none ∧ q.1 < s3.heap.objs.size ∧ q.1 ∉ frs X.stack ∧ ∀ v, q.2.data ≠ .cell v := fun q hq => by
    obtain ⟨a1, a2, a3, a4, a5⟩ := I3.pin q (List.mem_append_left _ hq)
    exact ⟨a1, a2, Heap.lt_size a1, fun hm => (List.mem_cons.mp (I3.stkSub q.1 hm)).elim a3 a4, a5⟩
  have fpX : ∀ b ∈ fp, ∀ q ∈ X.pn, q.1 ≠ b := fun b hb q hq => (f3 b hb).1.2.2.2.2.2 q (List.mem_append_left _ hq)
  generalize hce : compEnvC scope (cellsFrom (s3.heap.objs.size + 1) scope.names (cloFrom X.env.cells scope.names [])) s3.heap.objs.size X.env = ce at I4 pg pt pe ⊢
  have cL : ce.locals = s3.heap.objs.size := by subst hce; rfl
  generalize hH3 : upd H2 D (.lst []) = H3 at I3 I4 pg pt pe w0 nfp f3 pinsX
  generalize hs4 : ({ s3 with heap := pushCells (s3.heap.push { cls := .type "dict", data := .dict #[] }) scope.names } : Shared) = s4 at I4 ⊢
  have kp4 : ∀ b o, s3.heap.get? b = some o → s4.heap.get? b = some o := fun b o e => by rw [← hs4]; exact pushCells_keeps _ _ _ _ (Heap.get?_push_of_some _ e)
  have st4 : tn 0 s4.heap := T.keep _ _ _ st3 fun b _ o e => kp4 b o e
  -- the block's context with the pins
  have I4' : Inv (blkP X s3 H3 scope ce fp) [] (wipe σ (own.map (·.2))) H3 s4 := by
    have okB := I4.ok
    refine ⟨⟨okB.mod, okB.kind, okB.glob, okB.blt, okB.above, okB.inj, okB.has, okB.cab, okB.hd, okB.frames, okB.stk, okB.exf, okB.bs, okB.bsz, okB.noex, okB.exfs, okB.funs, okB.frf⟩, I4.os, I4.bare, I4.base, I4.loc, I4.cell, I4.free, I4.freeC, fun q hq => ?_, I4.hok, I4.len⟩
    have hq : q ∈ X.pn := by rw [List.append_nil] at hq; exact hq
    obtain ⟨a1, a2, a3, a4, a5⟩ := pinsX q hq
    exact ⟨kp4 _ _ a1, a2, by show q.1 ≠ ce.locals; rw [cL]; exact Nat.ne_of_lt a3, a4, a5⟩
  have stat : ∀ {σ' : L2.St} {H' : Hp} {s' : Shared}, Inv (blkP X s3 H3 scope ce fp) [] σ' H' s' → (∀ b ∈ fp, H' b = none) → ∀ b ∈ fp, FpOk (blkP X s3 H3 scope ce fp) [] H' b := fun {σ' H' s'} I' hn b hb =>
    ⟨hn b hb, (I'.ok.exf b hb).1, I'.ok.exfs b hb, .inl hb, fun x c e => (I'.ok.exf b hb).2 x c e, fun q hq => fpX b hb q (by rw [List.append_nil] at hq; exact hq)⟩
  have loop : codeAny (model X.prog X.w) X.A (.compLoop (.ListComp elt [⟨tg, iter, ifs, 0⟩] scope pos) 0 (.ref it) (.ref D) ce) (compPost (model X.prog X.w) X.A X.xe use Qf (.ref D) s3.heap.objs.size) s4 := by
    refine compLoop_any (fun n s' => ∃ i H', Inv (blkP X s3 H3 scope ce fp) [] (wipe σ (own.map (·.2))) H' s' ∧ tn i s'.heap ∧ (∀ b ∈ fp, H' b = none) ∧ Wt i n H') ?_ m0 ⟨0, H3, I4', st4, nfp, w0⟩
    rintro n s5 ⟨i, H5, I5, st5, n5, w5⟩
    rcases turn i n H5 w5 with ⟨stop, qq⟩ | ⟨go, Nx, hNx, step⟩
    · refine thnF (T.done (blkP X s3 H3 scope ce fp) rfl rfl rfl hc i [] s5 _ H5 (fun _ _ => False) I5 (stat I5 n5) st5 stop) fun r s6 ⟨hr, I6⟩ => ?_
      subst hr
      have I7 : Inv X pins σ H5 s6 := I3.call' (ch := fp) I6.os I6.base I6.hok I6.bare fun b hb => ⟨(f3 b hb).1.2.2.2.1, (f3 b hb).1.2.1, (f3 b hb).1.2.2.2.2.1, (f3 b hb).1.2.2.2.2.2⟩
      have nC : H5 s3.heap.objs.size = none := by have z : H5 ce.locals = none := I6.free; rw [cL] at z; exact z
      obtain ⟨m, hn, _⟩ := I6.loc
      have hn : s6.heap.Ns ce.locals m := hn
      rw [cL] at hn
      exact hRR D s3.heap.objs.size s6 m H5 I7 qq hn (I3.fpOk (Nat.le_refl _) nC)
    · refine thnF (T.item (blkP X s3 H3 scope ce fp) rfl rfl rfl hc i [] s5 _ H5 (fun _ _ => False) I5 (stat I5 n5) st5 go) fun r s6 ⟨u, hr, h6⟩ => ?_
      subst hr
      refine thnF h6 fun _ s7 ⟨x, H7, I7, r7, y7, st7, n7⟩ => ?_
      have I7' := I7.pinned (stat I7 n7) (T.obj _ _ st7)
      refine thnF (pg.run _ s7 _ H7 x u _ I7' r7 (step x H7 y7)) fun _ s8 ⟨σ8, H8, I8, hw8, q8⟩ => ?_
      refine thnF (pt.run _ s8 σ8 H8 _ I8 q8) fun b s9 ⟨H9, I9, q9⟩ => ?_
      have fin : ∀ {s' : Shared} {H' : Hp}, Inv (blkP X s3 H3 scope ce fp) ([] ++ pinsAt fp s7.heap) σ8 H' s' → Nx H' → ∃ m, m < n ∧ ∃ i H', Inv (blkP X s3 H3 scope ce fp) [] (wipe σ (own.map (·.2))) H' s' ∧ tn i s'.heap ∧ (∀ b ∈ fp, H' b = none) ∧ Wt i m H' := fun {s' H'} I' nx => by
        obtain ⟨m', hm, w'⟩ := hNx H' nx
        have pin' : ∀ b ∈ fp, ∀ o, s7.heap.get? b = some o → s'.heap.get? b = some o ∧ H' b = none := fun b hb o e =>
          let z := I'.pin (b, o) (List.mem_append_right _ (List.mem_append_right _ (mem_pinsAt hb e)))
          ⟨z.1, z.2.1⟩
        have hl : (wipe σ (own.map (·.2))).length = σ8.length := by rw [← hw8, wipe_length]
        refine ⟨m', hm, i + 1, H', (I'.unpinned (pins := [])).weak hl (fun j v e => ?_), T.keep _ _ _ st7 fun b hb o e => (pin' b hb o e).1, fun b hb => ?_, w'⟩
        · rw [← hw8] at e
          exact (wipe_some e).1
        · obtain ⟨o, e, _⟩ := T.obj _ _ st7 b hb
          exact (pin' b hb o e).2
      cases b with
      | false =>
        simp only [Bool.false_eq_true, if_false] at q9 ⊢
        exact fin I9 q9
      | true =>
        simp only [if_true] at q9 ⊢
        refine thnF (pe.run _ s9 σ8 H9 _ I9 q9) fun z s10 ⟨yv, H10, I10, r10, acc, hD10, hz10, nx⟩ => ?_
        exact app_ok (X := blkP X s3 H3 scope ce fp) I10 hD10 hz10 r10 fun s11 I11 => fin I11 nx
  exact codeAny_compStart_list loop (T.self X.A 0 _ _ _ st4 loop)
theorem pe_lcH {elt tg iter : Expr} {ifs : List Expr} {scope : Scope} {own : List (Str × Nat)} {pos : Pos} {wi : TI} {g : TG} {tt : TT} {te : TE} (hc : L2H.HotC X) (hN : X.N.Nodup) (hi : L2H.PIH X tg iter wi) (ok : BlkOk X.N X.env.scope scope own)
    (hg : ∀ (s : Shared) (H : Hp) (C : Addr) (cl : List (Str × Addr)) (fp : List Addr), PG (blkP X s H scope (compEnvC scope cl C X.env) fp) tg g) (ht : ∀ (s : Shared) (H : Hp) (C : Addr) (cl : List (Str × Addr)) (fp : List Addr), PTs (blkP X s H scope (compEnvC scope cl C X.env) fp) ifs tt)
    (he : ∀ (s : Shared) (H : Hp) (C : Addr) (cl : List (Str × Addr)) (fp : List Addr), PE (blkP X s H scope (compEnvC scope cl C X.env) fp) elt te) (hs : ∀ x, foldedSetIterable iter X.env x = pure x) :
    PE X (.ListComp elt [⟨tg, iter, ifs, 0⟩] scope pos) (tLc wi g tt te (own.map (·.2))) := by
  refine ⟨fun pins s σ H Q I h => ?_⟩
  rw [eval_ListComp]
  refine lc_coreH hc hN I hi ok hg ht he hs h fun D C s' m H' I' q hn f => ⟨m, hn, fun h'' sb => ?_⟩
  obtain ⟨f0, f1, f2, f3, f4, f5⟩ := f
  exact ⟨.ref D, H', I'.turned (t' := s'.toks) (fun b o hb e => (sb.2 b hb).trans e) f0 f1 f3 f4 f5, rfl, q⟩
end
section
variable {X : Cx} {H0 : En} {W : WX} {tg iter elt : Expr} {ifs : List Expr} {scope : Scope} {own : List (Str × Nat)} {pos : Pos} {g : IF} {t : GF} {bt : BF} {ef : EF} {gt : TG}
theorem pdLcH (hc : L2H.HotC X) (hN : X.N.Nodup) (hi : PIDH X H0 W tg iter g) (ok : BlkOk X.N X.env.scope scope own) (hgt : ∀ v σ H Q, tG X.K H0 t v σ H Q → gt v σ H Q) (hk : Keeps (own.map (·.2)) gt)
    (hg : ∀ (s : Shared) (H : Hp) (C : Addr) (cl : List (Str × Addr)) (fp : List Addr), PG (blkP X s H scope (compEnvC scope cl C X.env) fp) tg gt) (ht : ∀ (s : Shared) (H : Hp) (C : Addr) (cl : List (Str × Addr)) (fp : List Addr), PBs (blkP X s H scope (compEnvC scope cl C X.env) fp) H0 W0 ifs bt)
    (he : ∀ (s : Shared) (H : Hp) (C : Addr) (cl : List (Str × Addr)) (fp : List Addr), PD (blkP X s H scope (compEnvC scope cl C X.env) fp) H0 W0 elt ef) (hs : ∀ x, foldedSetIterable iter X.env x = pure x := by intro _; rfl) :
    PD X H0 W (.ListComp elt [⟨tg, iter, ifs, 0⟩] scope pos) (eLc g (own.map (·.2)) t bt ef) :=
  ⟨peWeak (pe_lcH hc hN hi.pi ok hg (fun s H C cl fp => (ht s H C cl fp).pts) (fun s H C cl fp => (he s H C cl fp).z) hs) fun σ H Q ⟨B, ρ, E, q⟩ => eLc_ok rfl hgt hk E q⟩
end
end PL
namespace PL
open PySem PySem.Spec PyProof.Rows L2
abbrev Mp := List (List Int × PyData)
inductive DW (K : PySem.W.Frag) (B : Hp) : List (List Key × V) → Mp → Prop
  | nil : DW K B [] []
  | cons {k : List Int} {v : V} {d : PyData} {kvs : List (List Key × V)} {M : Mp} : Rep (LH K B) v d → DW K B kvs M → DW K B ((k.map .inl, v) :: kvs) ((k, d) :: M)
section
variable {K : PySem.W.Frag} {B B' : Hp} {kvs : List (List Key × V)} {M : Mp} {k : List Int} {v : V} {d : PyData}
theorem DW.mono (e : Same B B') (h : DW K B kvs M) : DW K B' kvs M := by
  induction h with
  | nil => exact .nil
  | cons r _ ih => exact .cons (r.mono (LH.mono e)) ih
theorem DW.len (h : DW K B kvs M) : kvs.length = M.length := by
  induction h with
  | nil => rfl
  | cons _ _ ih => rw [List.length_cons, List.length_cons, ih]
theorem DW.any (h : DW K B kvs M) : (kvs.any fun kv => decide (kv.1 = (k.map .inl : List Key))) = M.any fun e => decide (e.1 = k) := by
  induction h with
  | nil => rfl
  | @cons k0 v0 d0 kvs M r _ ih =>
    rw [List.any_cons, List.any_cons, ih]
    congr 1
    show decide ((k0.map Sum.inl : List Key) = k.map .inl) = decide (k0 = k)
    by_cases h : k0 = k
    · rw [decide_eq_true h, decide_eq_true (by rw [h])]
    · rw [decide_eq_false h, decide_eq_false (fun z => h (inl_inj z))]
theorem DW.map (h : DW K B kvs M) (r : Rep (LH K B) v d) : DW K B (kvs.map fun kv => if kv.1 = (k.map .inl : List Key) then (kv.1, v) else kv) (M.map fun e => if e.1 = k then (e.1, d) else e) := by
  induction h with
  | nil => exact .nil
  | @cons k0 v0 d0 kvs M r0 _ ih =>
    rw [List.map_cons, List.map_cons]
    by_cases h : k0 = k
    · rw [if_pos (by rw [h]), if_pos h]
      exact .cons r ih
    · rw [if_neg (fun z => h (inl_inj z)), if_neg h]
      exact .cons r0 ih
theorem DW.at {k' : List Key} : ∀ {kvs : List (List Key × V)} {M : Mp} {i : Nat}, DW K B kvs M → kvs[i]? = some (k', v) → ∃ k d, M[i]? = some (k, d) ∧ k' = k.map .inl ∧ Rep (LH K B) v d
  | _, _, _, .nil, h => by simp at h
  | _, _, 0, .cons r _, h => by
    rw [List.getElem?_cons_zero] at h
    cases h
    exact ⟨_, _, rfl, rfl, r⟩
  | _, _, i + 1, .cons _ rs, h => DW.at (i := i) rs (by rwa [List.getElem?_cons_succ] at h)
end
structure Nc (C : List Addr) (B H B' H' : Hp) : Prop where
  b : Same B B'
  bh : Same B' H'
  h : ∀ a o, a ∉ C → H a = some o → H' a = some o
  k : ∀ a, H a ≠ none → H' a ≠ none
  no : ∀ a, B a = none → H a ≠ none → B' a = none
section
variable {C C' : List Addr} {B H B' H' B2 H2 : Hp}
theorem Nc.of (n : Nx B H B' H') : Nc C B H B' H' := ⟨n.b, n.bh, fun a o _ e => n.h a o e, fun a e => PL.Same.ne n.h e, n.no⟩
theorem Nc.trans (a : Nc C B H B' H') (b : Nc C B' H' B2 H2) : Nc C B H B2 H2 :=
  ⟨a.b.trans b.b, b.bh, fun c o h e => b.h c o h (a.h c o h e), fun c e => b.k c (a.k c e), fun c h1 h2 => b.no c (a.no c h1 h2) (a.k c h2)⟩
theorem Nc.refl (e : Same B H) : Nc C B H B H := .of (.refl e)
/-- a cell is written -/
theorem Nc.wr {c : Addr} {o : HO} (e : Same B H) (hB : B c = none) (hc : H c ≠ none) (m : c ∈ C) : Nc C B H B (upd H c o) :=
  ⟨Same.refl _, fun a u q => by
    rw [upd_ne (fun z => by subst z; rw [hB] at q; cases q)]; exact e a u q, fun a u h q => by
    rw [upd_ne (fun z => by subst z; exact h m)]; exact q, fun a q => by
    by_cases z : a = c
    · subst z; rw [upd_same]; simp
    · rw [upd_ne z]; exact q, fun a h _ => h⟩
/-- a new cell -/
theorem Nc.new {c : Addr} {o : HO} (e : Same B H) (hc : H c = none) : Nc C B H B (upd H c o) := .of ⟨Same.refl _, e.trans (same_upd hc), same_upd hc, fun _ h _ => h⟩
/-- cells that stood nowhere may change as well -/
theorem Nc.drop {c : Addr} (a : Nc (c :: C) B H B' H') (hc : H c = none) : Nc C B H B' H' :=
  ⟨a.b, a.bh, fun x o h e => a.h x o (fun z => by
    rcases List.mem_cons.mp z with z | z
    · subst z; rw [hc] at e; cases e
    · exact h z) e, a.k, a.no⟩
end
def E0 (so : Addr → BS.Mem → HO) (cl : Nat → Addr) : En := ⟨emp, emp, 0, fun _ => False, so, cl, 0⟩
section
variable {K : PySem.W.Frag} {mg : Str → Option Value} {W : WX} {B H : Hp} {σ : L2.St} {ρ : Ev} {so : Addr → BS.Mem → HO} {cl : Nat → Addr} {f : EF} {s : Sl} {fr : Bool} {d : PyData} {Q : VK}
inductive Sls (K : PySem.W.Frag) (B : Hp) : L2.St → Ev → Prop
  | nil : Sls K B [] []
  | und {o : Option V} {σ : L2.St} {ρ : Ev} : Sls K B σ ρ → Sls K B (o :: σ) (.und :: ρ)
  | int {i : Int} {σ : L2.St} {ρ : Ev} : Sls K B σ ρ → Sls K B (some (.int i) :: σ) (.val true (.int i) :: ρ)
  | val {v : V} {d : PyData} {σ : L2.St} {ρ : Ev} : Rep (LH K B) v d → Sls K B σ ρ → Sls K B (some v :: σ) (.val false d :: ρ)
theorem Sls.len (h : Sls K B σ ρ) : σ.length = ρ.length := by
  induction h with
  | nil => rfl
  | und _ ih => rw [List.length_cons, List.length_cons, ih]
  | int _ ih => rw [List.length_cons, List.length_cons, ih]
  | val _ _ ih => rw [List.length_cons, List.length_cons, ih]
/-- what a call gives -/
theorem FROk.any {E : XK} {fr : Bool} {d : PyData} (eB : Same B H) (k : ∀ v B' H', Nx B H B' H' → Rep (LH K B') v d → Q v H') : FROk K mg B H Q E (.ret fr d) := by
  cases fr with
  | false => exact fun v B' H' n r => k v B' H' n r
  | true =>
    intro v H' N s1 s2 s3 r
    have g : ∀ a o, N a = some o → B a = none := fun a o q => eB.free (s3 a (by rw [q]; simp))
    have sT : Same N (un B N) := fun a o q => by unfold un; rw [g a o q]; exact q
    have sB : Same B (un B N) := fun a o q => by unfold un; rw [q]
    refine k v (un B N) H' ⟨sB, fun a o q => ?_, s1, fun a q1 q2 => ?_⟩ (r.mono fun a o q => LN.toH sT a o q)
    · unfold un at q
      cases z : B a with
      | some u => rw [z] at q; cases q; exact s1 _ _ (eB _ _ z)
      | none => rw [z] at q; exact s2 _ _ q
    · unfold un
      rw [q1]
      cases z : N a with
      | none => rfl
      | some u => exact absurd (s3 a (by rw [z]; simp)) q2
end
end PL
namespace PL
open PySem PySem.Spec PyProof.Rows L2
end PL
namespace PL
open PySem PySem.Spec PyProof.Rows L2
section
variable {K : PySem.W.Frag} {mg : Str → Option Value} {W : WX} {cd cg : Addr} {bt : FN} {Q : VK} {E : XK} {so : Addr → BS.Mem → HO} {cl : Nat → Addr} {B B' H : Hp} {σ : L2.St} {ρ : Ev}
theorem Sls.mono (e : Same B B') (h : Sls K B σ ρ) : Sls K B' σ ρ := by
  induction h with
  | nil => exact .nil
  | und _ ih => exact .und ih
  | int _ ih => exact .int ih
  | val r _ ih => exact .val (r.mono (LH.mono e)) ih
theorem objP.mono {C p : Addr} {fs : Fds} (e : Same B B') (h : objP K B C p fs) : objP K B' C p fs := let ⟨dx, xs, h1, h2⟩ := h; ⟨dx, xs, e _ _ h1, h2.mono (LH.mono e)⟩
end
end PL
namespace PL
open PySem PySem.Spec PyProof.Rows L2
end PL
namespace PL
open PySem PySem.Spec PyProof.Rows L2
end PL
local macro_rules
  | `(tactic| simp_arith only [$args,*]) => `(tactic| simp only [PL.bs1, PL.bs2, PL.bs3, PL.bs4, PL.bs5, PL.bs6, PL.bs7, PL.bs8, PL.bs9, PL.bs10, PL.bs11, PL.bs12, PL.bs13, PL.bs14, PL.bs15, PL.bs16, PL.bs17, PL.bs18, PL.bs19, PL.bs20, PL.bs21, PL.bs22, PL.bs23, PL.bs24, PL.bs25, PL.bs26, PL.bs27, PL.bs28, PL.bs29, PL.bs30, PL.bs31, PL.bs32, PL.bs33, PL.bs34, PL.bs35, PL.bs36, PL.bs37, PL.bs38, PL.bs39, PL.bs40, PL.bs41, PL.ev_seq, PL.kSeq_nx, PL.kSeq_rt, PL.kSeq_bk, PL.kSeq_ct, PL.kSeq_ex, PL.ev_nil, PL.ev_pass, PL.ev_break, PL.ev_cont, PL.ev_retn, PL.ev_fg, PL.fgt_nil, PL.fgt_cons, PL.ev_gh, PL.kGh_some, PL.ev_gfrz, PL.kFrz_some, PL.ev_gown, PL.kOwn_full, PL.kOwn_own, PL.kOwn_val, PL.ev_setZ, PL.kSetZ_val, PL.kSetZ_own, PL.kSetZ_full, PL.kSetZ_ex, PL.ev_set, PL.kSet_val, PL.kSet_own, PL.kSet_full, PL.kSet_ex, PL.ev_ret, PL.kRet_val, PL.kRet_own, PL.kRet_full, PL.kRet_ex, PL.ev_retO, PL.kRetO_own, PL.kRetO_val, PL.kRetO_full, PL.ev_expr, PL.kExpr_ok, PL.kExpr_ex, PL.ev_if, PL.kIf_true, PL.kIf_false, PL.ev_for, PL.kFor_ok, PL.ev_while, PL.ev_turn, PL.kTurn1_some, PL.kTurn_nx, PL.kTurn_ct, PL.kTurn_bk, PL.kTurn_rt, PL.kTurn_ex, PL.ev_wturn, PL.kW_true, PL.kW_false, PL.ev_gN, PL.ev_gT, PL.kT_some, PL.itemsT_val, PL.gSets_nil, PL.gSets_val, PL.mkv_int, PL.mkv_bool, PL.mkv_str, PL.mkv_none, PL.mkv_list, PL.mkv_tuple, PL.ev_unp, PL.kUnp_val, PL.kUnp_full, PL.kU_some, PL.ev_aug, PL.kAug_val, PL.kA_some, PL.ev_app, PL.kApp_val, PL.kApp_own, PL.kApp_full, PL.ev_put, PL.kPut_val, PL.callF_eq, PL.entE_nil, PL.unds_succ, PL.unds_zero, PL.entE_cons, PL.entS_int, PL.entS_bool, PL.entS_str, PL.entS_none, PL.entS_list, PL.entS_tuple, PL.kF_nx, PL.kF_rt, PL.kF_ex, PL.frOf_val, PL.frOf_own, PL.frOf_full, PL.ev_var, PL.kVar_val, PL.kVar_own, PL.kVar_full, PL.ev_c, PL.ev_e2, PL.k2_ok, PL.okO_some, PL.ev_e1, PL.k1_ok, PL.frz_val, PL.frz_own, PL.frz_full, PL.frz_bor, PL.frz_brf, PL.dat_val, PL.dat_bor, PL.dat_brf, PL.ev_evs0, PL.ev_evs, PL.kC_ok, PL.ev_cb, PL.kCB_ok, PL.ev_call, PL.kCall_ok, PL.ev_cres, PL.kRs_some, PL.kRes_int, PL.kRes_bool, PL.kRes_str, PL.kRes_none, PL.kRes_list, PL.kRes_tuple, PL.kRes_false, PL.kRes_exc, PL.dats_nil, PL.dats_cons, PL.kD_some, PL.isVal_val, PL.isVal_bor, PL.isVal_brf, PL.ev_isa, PL.kIsa_val, PL.kIsa_own, PL.kIsa_bor, PL.kIsa_full, PL.kIsa_brf, PL.ev_and, PL.kAnd_val, PL.kAnd2_true, PL.kAnd2_false, PL.kAnd2_val, PL.ev_or, PL.kOr_val, PL.kOr2_true, PL.kOr2_false, PL.kOr2_val, PL.ev_not, PL.kNot_val, PL.ev_ife, PL.kIfE_true, PL.kIfE_false, PL.ev_bof, PL.kB_val, PL.ev_tof, PL.kTo_val, PL.kTo_own, PL.kTo_bor, PL.kTo_full, PL.kTo_brf, PL.okB_some, PL.truth_bool, PL.truth_int, PL.truth_none, PL.truth_list, PL.truth_tuple, PL.ev_bnot, PL.kNotB_ok, PL.ev_band, PL.kAndB_ok, PL.kAndB2_true, PL.kAndB2_false, PL.kAndB2_ok, PL.ev_bor, PL.kOrB_ok, PL.kOrB2_true, PL.kOrB2_false, PL.kOrB2_ok, PL.ev_chain, PL.kCh_ok, PL.kCh2_false, PL.kCh2_true, PL.ev_fD, PL.kD2_some, PL.kS_int, PL.kS_bool, PL.kS_str, PL.kS_none, PL.ev_sub, PL.ev_addI, PL.ev_iadd, PL.ev_div, PL.ev_mod, PL.ev_pow, PL.ev_mulI, PL.ev_neg, PL.ev_eqI, PL.ev_neI, PL.ev_ltI, PL.ev_leI, PL.ev_gtI, PL.ev_geI, PL.ev_fD1, PL.kD1_some, PL.ev_int, PL.ev_intb, PL.ev_abs, PL.ev_lenL, PL.ev_lenT, PL.ev_fI2, PL.ev_catT, PL.ev_catVV, PL.ev_repV, PL.ev_list, PL.kLst_ok, PL.ev_tup, PL.kTup_ok, PL.kMk_some, PL.kMkT_some, PL.stors_nil, PL.stors_cons, PL.kSt_some, PL.stor_val, PL.ev_ixL, PL.ev_ixT, PL.ev_ixB, PL.atI_cast, PL.atI_0, PL.atI_1, PL.atI_2, PL.atI_3, PL.atI_4, PL.atI_5, PL.atI_6, PL.atI_7, PL.kSl_valT, PL.kSl_brfT, PL.ev_slice, PL.kSl_val, PL.kSl_own, PL.kSl_bor, PL.kSl_full, PL.ev_pN, PL.ev_pS, PL.kP_int, PL.ev_rev, PL.ev_ls, PL.ev_lsT, PL.ev_tl, PL.all_scal, PL.ev_sorted, PL.kSo_some, PL.ev_iL, PL.kIL_val, PL.kIL_own, PL.kIL_full, PL.ev_iR, PL.kR_1, PL.kR_2, PL.map_mkv_int, PL.mkI_eq, PL.rngI_eq, PL.mkN_eq, PL.ev_iR3, PL.kR3_ok, PL.rngC_eq, PL.mkC_eq, PL.ev_iM, PL.kM_ok, PL.kM2_some, PL.mkEn_val, PL.mkTp_val, PL.ev_iZp, PL.kZp_ok, PL.mkZp_val, PL.ev_lc, PL.kLc_ok, PL.kLcM_some, PL.wipeE_nil, PL.wipeE_cons, PL.ev_byes, PL.kE_val, PL.kE_own, PL.kE_full, PL.kEl_some, PL.kTl_some, PL.ev_appAt, PL.kAppAt_tuple, PL.kAppAt_list, PL.kAA_ok, PL.ev_andI, PL.ev_orI, PL.ev_shr, PL.ev_shl, PL.ev_raise, PL.ev_tryAs, PL.kTA_nx, PL.kTA_rt, PL.kTA_ex, PL.kTA2_true, PL.kTA2_false, PL.hOut_rt, PL.hOut_nx, PL.noEx_nil, PL.noEx_und, PL.noEx_val, PL.noEx_own, PL.noEx_full, PL.ev_isE, PL.kIE_ex, PL.kIE2_some, PL.ev_step, PL.ev_isNN, PL.ev_isBB, PL.ev_isLN, PL.ev_isTN, PL.ev_isIN, PL.ev_all, PL.ev_any, PL.ev_ixF, PL.ev_ixFL, PL.mkb_int, PL.mkb_bool, PL.mkb_list, PL.mkb_tuple, PL.kSet_cel, PL.ev_gfrzN, PL.kFrzN_nst, PL.ev_dnewI, PL.ev_doneI, PL.kDOneI_i, PL.kDOneI_b, PL.ev_din, PL.kDIn_ok, PL.ev_dget, PL.kDGet_ok, PL.kDG_some, PL.sv_di, PL.sv_db, PL.ev_dput, PL.kDPut_i, PL.kDPut_b, PL.ev_fz, PL.kFz_some, PL.fzR_int, PL.fzR_bool, PL.fzR_ex, PL.ev_pop, PL.kPop_some, PL.popL_snoc, PL.ev_try, PL.kTr_nx, PL.kTr_rt, PL.kTr_ex, PL.kTr2_true, PL.kTr2_false, PL.hOut0_rt, PL.hOut0_nx, PL.ev_callK, PL.kCallK_ok, PL.ev_isLT, PL.kIsLT_val, PL.isLT_list, PL.isLT_tuple, PL.isLT_int, PL.isLT_none, PL.isLT_bool, PL.ev_iS, PL.kIS_list, PL.kIS_tuple, PL.ev_try2, PL.kTry2_nx, PL.kTry2_rt, PL.kTry2_ex, PL.kCl_true, PL.kCl_false, PL.ev_forApp, PL.kFA_ok, PL.ev_sc, PL.kSc_ok, PL.ev_sortK, PL.kSortK_ok, PL.kSoK_some, PL.ev_dc, PL.kDc_ok, PL.ev_sone, PL.kSOne_ok, PL.ev_snew, PL.ev_sin, PL.kSIn_ok, PL.ev_lenC, PL.lenC_dT, PL.lenC_dI, PL.lenC_sT, PL.ev_sortV, PL.kSortV_ok, PL.ev_sadd, PL.kSAdd_ok, PL.ev_dinT, PL.kDInT_ok, PL.ev_dputT, PL.kDPutT_b, PL.kDPutT_i, PL.ev_rngL, PL.ev_dnewS, PL.ev_doneS, PL.kDOneS_i, PL.kDOneS_b, PL.ev_dinS, PL.kDInS_ok, PL.ev_dgetS, PL.kDGetS_ok, PL.ev_dputS, PL.kDPutS_i, PL.kDPutS_b, PL.ev_gnst, PL.itemsL_val, PL.ev_gTL, PL.ev_unpL, PL.kUnpL_val, PL.kUnpL_full, PL.kNst_nst, PL.callI_eq, PL.selfOf_eq, PL.kI0_nx, PL.kI0_ex, PL.callM_eq, PL.kI1_ok, PL.kI1_exc, PL.ev_ires, PL.kI2_some, PL.ev_make, PL.kMkI_ok, PL.ev_mres, PL.kMr_some, PL.ev_meth, PL.kMe_ok, PL.ev_metht, PL.kMt_ok, PL.kMt_ex, PL.ev_fld, PL.kFl_obj, PL.kFl_obm, PL.ev_flds, PL.kFSo_ok, PL.kFS_ok, PL.gFs_nil, PL.gFs_inl, PL.gFs_inr, PL.kUF2_ok, PL.kUF_some, PL.ev_unpf, PL.kUFo_ok, PL.ev_raisev, PL.kRv_ok, PL.ev_split, PL.kSp_ok, PL.ev_mkst, PL.ev_kin, PL.kKi_ok, PL.ev_kix, PL.kKx_ok, PL.ev_c2, PL.ev_intT, PL.ev_strI, PL.ev_mulT, PL.callX_eq, PL.ev_callX, PL.kCX_ok, PL.ev_callXS, PL.kCXS_ok, PL.kXs2_some, PL.xS_bool, PL.ev_mkX, PL.kMX_ok, PL.ev_lstX, PL.kLX_ok, PL.ev_vX, PL.kVX_ok, PL.ev_xIx, PL.kXI_ok, PL.kXI2_some, PL.ev_strX, PL.kSX_ok, PL.ev_isV, PL.kIV_ok, PL.ev_callXV, PL.kCV_ok, PL.kCV2_ok, PL.ev_iX, PL.kIX_ok, PL.cd_true, PL.cd_false, reduceIte, Nat.reduceLT, Nat.reduceLeDiff, Nat.reduceAdd, Nat.reduceMul, Nat.reduceSub, Nat.reduceEqDiff, Int.reduceLT, Int.reduceLE, Int.reduceAdd, Int.reduceSub, Int.reduceMul, Int.reduceNeg, Int.reduceToNat, Int.reduceEq, Int.reduceAbs, Int.reducePow, Int.reduceDiv, Int.reduceMod, $args,*])
local macro_rules
  | `(tactic| simp_all_arith only [$args,*]) => `(tactic| simp (disch := first | exact True.intro | exact not_false | assumption | ((try simp only [List.length_append, List.length_map, List.length_cons, List.length_nil, List.length_take, List.length_drop, List.length_range, List.length_reverse]); omega)) only [PL.bs1, PL.bs2, PL.bs3, PL.bs4, PL.bs5, PL.bs6, PL.bs7, PL.bs8, PL.bs9, PL.bs10, PL.bs11, PL.bs12, PL.bs13, PL.bs14, PL.bs15, PL.bs16, PL.bs17, PL.bs18, PL.bs19, PL.bs20, PL.bs21, PL.bs22, PL.bs23, PL.bs24, PL.bs25, PL.bs26, PL.bs27, PL.bs28, PL.bs29, PL.bs30, PL.bs31, PL.bs32, PL.bs33, PL.bs34, PL.bs35, PL.bs36, PL.bs37, PL.bs38, PL.bs39, PL.bs40, PL.bs41, PL.ev_seq, PL.kSeq_nx, PL.kSeq_rt, PL.kSeq_bk, PL.kSeq_ct, PL.kSeq_ex, PL.ev_nil, PL.ev_pass, PL.ev_break, PL.ev_cont, PL.ev_retn, PL.ev_fg, PL.fgt_nil, PL.fgt_cons, PL.ev_gh, PL.kGh_some, PL.ev_gfrz, PL.kFrz_some, PL.ev_gown, PL.kOwn_full, PL.kOwn_own, PL.kOwn_val, PL.ev_setZ, PL.kSetZ_val, PL.kSetZ_own, PL.kSetZ_full, PL.kSetZ_ex, PL.ev_set, PL.kSet_val, PL.kSet_own, PL.kSet_full, PL.kSet_ex, PL.ev_ret, PL.kRet_val, PL.kRet_own, PL.kRet_full, PL.kRet_ex, PL.ev_retO, PL.kRetO_own, PL.kRetO_val, PL.kRetO_full, PL.ev_expr, PL.kExpr_ok, PL.kExpr_ex, PL.ev_if, PL.kIf_true, PL.kIf_false, PL.ev_for, PL.kFor_ok, PL.ev_while, PL.ev_turn, PL.kTurn1_some, PL.kTurn_nx, PL.kTurn_ct, PL.kTurn_bk, PL.kTurn_rt, PL.kTurn_ex, PL.ev_wturn, PL.kW_true, PL.kW_false, PL.ev_gN, PL.ev_gT, PL.kT_some, PL.itemsT_val, PL.gSets_nil, PL.gSets_val, PL.mkv_int, PL.mkv_bool, PL.mkv_str, PL.mkv_none, PL.mkv_list, PL.mkv_tuple, PL.ev_unp, PL.kUnp_val, PL.kUnp_full, PL.kU_some, PL.ev_aug, PL.kAug_val, PL.kA_some, PL.ev_app, PL.kApp_val, PL.kApp_own, PL.kApp_full, PL.ev_put, PL.kPut_val, PL.callF_eq, PL.entE_nil, PL.unds_succ, PL.unds_zero, PL.entE_cons, PL.entS_int, PL.entS_bool, PL.entS_str, PL.entS_none, PL.entS_list, PL.entS_tuple, PL.kF_nx, PL.kF_rt, PL.kF_ex, PL.frOf_val, PL.frOf_own, PL.frOf_full, PL.ev_var, PL.kVar_val, PL.kVar_own, PL.kVar_full, PL.ev_c, PL.ev_e2, PL.k2_ok, PL.okO_some, PL.ev_e1, PL.k1_ok, PL.frz_val, PL.frz_own, PL.frz_full, PL.frz_bor, PL.frz_brf, PL.dat_val, PL.dat_bor, PL.dat_brf, PL.ev_evs0, PL.ev_evs, PL.kC_ok, PL.ev_cb, PL.kCB_ok, PL.ev_call, PL.kCall_ok, PL.ev_cres, PL.kRs_some, PL.kRes_int, PL.kRes_bool, PL.kRes_str, PL.kRes_none, PL.kRes_list, PL.kRes_tuple, PL.kRes_false, PL.kRes_exc, PL.dats_nil, PL.dats_cons, PL.kD_some, PL.isVal_val, PL.isVal_bor, PL.isVal_brf, PL.ev_isa, PL.kIsa_val, PL.kIsa_own, PL.kIsa_bor, PL.kIsa_full, PL.kIsa_brf, PL.ev_and, PL.kAnd_val, PL.kAnd2_true, PL.kAnd2_false, PL.kAnd2_val, PL.ev_or, PL.kOr_val, PL.kOr2_true, PL.kOr2_false, PL.kOr2_val, PL.ev_not, PL.kNot_val, PL.ev_ife, PL.kIfE_true, PL.kIfE_false, PL.ev_bof, PL.kB_val, PL.ev_tof, PL.kTo_val, PL.kTo_own, PL.kTo_bor, PL.kTo_full, PL.kTo_brf, PL.okB_some, PL.truth_bool, PL.truth_int, PL.truth_none, PL.truth_list, PL.truth_tuple, PL.ev_bnot, PL.kNotB_ok, PL.ev_band, PL.kAndB_ok, PL.kAndB2_true, PL.kAndB2_false, PL.kAndB2_ok, PL.ev_bor, PL.kOrB_ok, PL.kOrB2_true, PL.kOrB2_false, PL.kOrB2_ok, PL.ev_chain, PL.kCh_ok, PL.kCh2_false, PL.kCh2_true, PL.ev_fD, PL.kD2_some, PL.kS_int, PL.kS_bool, PL.kS_str, PL.kS_none, PL.ev_sub, PL.ev_addI, PL.ev_iadd, PL.ev_div, PL.ev_mod, PL.ev_pow, PL.ev_mulI, PL.ev_neg, PL.ev_eqI, PL.ev_neI, PL.ev_ltI, PL.ev_leI, PL.ev_gtI, PL.ev_geI, PL.ev_fD1, PL.kD1_some, PL.ev_int, PL.ev_intb, PL.ev_abs, PL.ev_lenL, PL.ev_lenT, PL.ev_fI2, PL.ev_catT, PL.ev_catVV, PL.ev_repV, PL.ev_list, PL.kLst_ok, PL.ev_tup, PL.kTup_ok, PL.kMk_some, PL.kMkT_some, PL.stors_nil, PL.stors_cons, PL.kSt_some, PL.stor_val, PL.ev_ixL, PL.ev_ixT, PL.ev_ixB, PL.atI_cast, PL.atI_0, PL.atI_1, PL.atI_2, PL.atI_3, PL.atI_4, PL.atI_5, PL.atI_6, PL.atI_7, PL.kSl_valT, PL.kSl_brfT, PL.ev_slice, PL.kSl_val, PL.kSl_own, PL.kSl_bor, PL.kSl_full, PL.ev_pN, PL.ev_pS, PL.kP_int, PL.ev_rev, PL.ev_ls, PL.ev_lsT, PL.ev_tl, PL.all_scal, PL.ev_sorted, PL.kSo_some, PL.ev_iL, PL.kIL_val, PL.kIL_own, PL.kIL_full, PL.ev_iR, PL.kR_1, PL.kR_2, PL.map_mkv_int, PL.mkI_eq, PL.rngI_eq, PL.mkN_eq, PL.ev_iR3, PL.kR3_ok, PL.rngC_eq, PL.mkC_eq, PL.ev_iM, PL.kM_ok, PL.kM2_some, PL.mkEn_val, PL.mkTp_val, PL.ev_iZp, PL.kZp_ok, PL.mkZp_val, PL.ev_lc, PL.kLc_ok, PL.kLcM_some, PL.wipeE_nil, PL.wipeE_cons, PL.ev_byes, PL.kE_val, PL.kE_own, PL.kE_full, PL.kEl_some, PL.kTl_some, PL.ev_appAt, PL.kAppAt_tuple, PL.kAppAt_list, PL.kAA_ok, PL.ev_andI, PL.ev_orI, PL.ev_shr, PL.ev_shl, PL.ev_raise, PL.ev_tryAs, PL.kTA_nx, PL.kTA_rt, PL.kTA_ex, PL.kTA2_true, PL.kTA2_false, PL.hOut_rt, PL.hOut_nx, PL.noEx_nil, PL.noEx_und, PL.noEx_val, PL.noEx_own, PL.noEx_full, PL.ev_isE, PL.kIE_ex, PL.kIE2_some, PL.ev_step, PL.ev_isNN, PL.ev_isBB, PL.ev_isLN, PL.ev_isTN, PL.ev_isIN, PL.ev_all, PL.ev_any, PL.ev_ixF, PL.ev_ixFL, PL.mkb_int, PL.mkb_bool, PL.mkb_list, PL.mkb_tuple, PL.kSet_cel, PL.ev_gfrzN, PL.kFrzN_nst, PL.ev_dnewI, PL.ev_doneI, PL.kDOneI_i, PL.kDOneI_b, PL.ev_din, PL.kDIn_ok, PL.ev_dget, PL.kDGet_ok, PL.kDG_some, PL.sv_di, PL.sv_db, PL.ev_dput, PL.kDPut_i, PL.kDPut_b, PL.ev_fz, PL.kFz_some, PL.fzR_int, PL.fzR_bool, PL.fzR_ex, PL.ev_pop, PL.kPop_some, PL.popL_snoc, PL.ev_try, PL.kTr_nx, PL.kTr_rt, PL.kTr_ex, PL.kTr2_true, PL.kTr2_false, PL.hOut0_rt, PL.hOut0_nx, PL.ev_callK, PL.kCallK_ok, PL.ev_isLT, PL.kIsLT_val, PL.isLT_list, PL.isLT_tuple, PL.isLT_int, PL.isLT_none, PL.isLT_bool, PL.ev_iS, PL.kIS_list, PL.kIS_tuple, PL.ev_try2, PL.kTry2_nx, PL.kTry2_rt, PL.kTry2_ex, PL.kCl_true, PL.kCl_false, PL.ev_forApp, PL.kFA_ok, PL.ev_sc, PL.kSc_ok, PL.ev_sortK, PL.kSortK_ok, PL.kSoK_some, PL.ev_dc, PL.kDc_ok, PL.ev_sone, PL.kSOne_ok, PL.ev_snew, PL.ev_sin, PL.kSIn_ok, PL.ev_lenC, PL.lenC_dT, PL.lenC_dI, PL.lenC_sT, PL.ev_sortV, PL.kSortV_ok, PL.ev_sadd, PL.kSAdd_ok, PL.ev_dinT, PL.kDInT_ok, PL.ev_dputT, PL.kDPutT_b, PL.kDPutT_i, PL.ev_rngL, PL.ev_dnewS, PL.ev_doneS, PL.kDOneS_i, PL.kDOneS_b, PL.ev_dinS, PL.kDInS_ok, PL.ev_dgetS, PL.kDGetS_ok, PL.ev_dputS, PL.kDPutS_i, PL.kDPutS_b, PL.ev_gnst, PL.itemsL_val, PL.ev_gTL, PL.ev_unpL, PL.kUnpL_val, PL.kUnpL_full, PL.kNst_nst, PL.callI_eq, PL.selfOf_eq, PL.kI0_nx, PL.kI0_ex, PL.callM_eq, PL.kI1_ok, PL.kI1_exc, PL.ev_ires, PL.kI2_some, PL.ev_make, PL.kMkI_ok, PL.ev_mres, PL.kMr_some, PL.ev_meth, PL.kMe_ok, PL.ev_metht, PL.kMt_ok, PL.kMt_ex, PL.ev_fld, PL.kFl_obj, PL.kFl_obm, PL.ev_flds, PL.kFSo_ok, PL.kFS_ok, PL.gFs_nil, PL.gFs_inl, PL.gFs_inr, PL.kUF2_ok, PL.kUF_some, PL.ev_unpf, PL.kUFo_ok, PL.ev_raisev, PL.kRv_ok, PL.ev_split, PL.kSp_ok, PL.ev_mkst, PL.ev_kin, PL.kKi_ok, PL.ev_kix, PL.kKx_ok, PL.ev_c2, PL.ev_intT, PL.ev_strI, PL.ev_mulT, PL.callX_eq, PL.ev_callX, PL.kCX_ok, PL.ev_callXS, PL.kCXS_ok, PL.kXs2_some, PL.xS_bool, PL.ev_mkX, PL.kMX_ok, PL.ev_lstX, PL.kLX_ok, PL.ev_vX, PL.kVX_ok, PL.ev_xIx, PL.kXI_ok, PL.kXI2_some, PL.ev_strX, PL.kSX_ok, PL.ev_isV, PL.kIV_ok, PL.ev_callXV, PL.kCV_ok, PL.kCV2_ok, PL.ev_iX, PL.kIX_ok, PL.cd_true, PL.cd_false, reduceIte, Nat.reduceLT, Nat.reduceLeDiff, Nat.reduceAdd, Nat.reduceMul, Nat.reduceSub, Nat.reduceEqDiff, Int.reduceLT, Int.reduceLE, Int.reduceAdd, Int.reduceSub, Int.reduceMul, Int.reduceNeg, Int.reduceToNat, Int.reduceEq, Int.reduceAbs, Int.reducePow, Int.reduceDiv, Int.reduceMod, $args,*])
namespace PF
open PySem PySem.Spec PyProof.Rows L2 PL
noncomputable section
def B__law_draws_1 : SF := (sIf (bAnd (tOf (eVar 5)) (bOf (e2 (fD gGt) (eVar 3) (eC (.int 1)))))
  (sSeq (sApp 2 (e2 (fD gMod) (eCB (fD1 gInt) [(eVar 3)]) (eVar 6)))
  (sSetZ 3 (e2 (fD gDiv) (eVar 3) (eVar 6))))
  (sSeq (sSetZ 4 (e2 (fD gMod) (eCB (fD1 gInt) [(e2 fAdd (e2 fMul (eVar 4) (eC (.int 48271))) (eC (.int 11)))]) (eC (.int 2147483647))))
  (sSeq (sSetZ 4 (e2 (fD gMod) (eCB (fD1 gInt) [(e2 fAdd (e2 fMul (eVar 4) (eC (.int 69621))) (eC (.int 7)))]) (eC (.int 2147483647))))
  (sApp 2 (e2 (fD gMod) (eCB (fD1 gInt) [(e2 (fD gDiv) (eVar 4) (eC (.int 13)))]) (eVar 6))))))
def F__law_draws : SF := (sSeq (sSet 2 (eList []))
  (sSeq (sSetZ 3 (eCB (fD1 gAbs) [(eCB (fD1 gInt) [(eVar 0)])]))
  (sSeq (sSetZ 4 (e2 (fD gMod) (eCB (fD1 gInt) [(eVar 3)]) (eC (.int 2147483647))))
  (sSeq (sSetZ 5 (eOr (e2 (fD gLt) (eVar 0) (eC (.int 0))) (e2 (fD gGe) (eVar 0) (e2 (fD gPow) (eC (.int 10)) (eC (.int 18))))))
  (sSeq (sForD [6] (iL (eVar 1)) (gN 6)
  PF.B__law_draws_1)
  (sFg [3, 4] (sRetOwn 2)))))))
def f__law_draws : FN := callF 7 F__law_draws
/-- drawn numbers stand below their limits -/
def Below : List Int → List Int → Prop
  | [], [] => True
  | r :: rs, l :: ls => 0 ≤ r ∧ r < l ∧ Below rs ls
  | _, _ => False
theorem Below.snoc : ∀ {rs ls : List Int} {r l : Int}, Below rs ls → 0 ≤ r → r < l → Below (rs ++ [r]) (ls ++ [l])
  | [], [], _, _, _, h1, h2 => ⟨h1, h2, trivial⟩
  | _ :: _, _ :: _, _, _, h, h1, h2 => ⟨h.1, h.2.1, h.2.2.snoc h1 h2⟩
  | [], _ :: _, _, _, h, _, _ => h.elim
  | _ :: _, [], _, _, h, _, _ => h.elim
theorem Below.length : ∀ {rs ls : List Int}, Below rs ls → rs.length = ls.length
  | [], [], _ => rfl
  | _ :: _, _ :: _, h => congrArg (· + 1) h.2.2.length
  | [], _ :: _, h => h.elim
  | _ :: _, [], h => h.elim
theorem draws_ok (c : Int) (lims : List Int) (h : ∀ l ∈ lims, 0 < l ∧ l < 1073741824) (hl : lims.length < 16777216) : ∃ rs : List Int, f__law_draws [.int c, .list (lims.map .int)] = some (.ret true (.list (rs.map .int))) ∧ Below rs lims := by
  simp_arith only [f__law_draws, F__law_draws]
  refine forT_nx (fun l ρ => ∃ dn rs r s b, lims = dn ++ l ∧ Below rs dn ∧ ρ = [.val true (.int c), .val false (.list (lims.map .int)), .own true (rs.map .int), .val true (.int r), .val true (.int s), .val true (.bool b), .und]) (fun o => ∃ rs, kF (kSeq o _) = some (.ret true (.list (rs.map .int))) ∧ Below rs lims) ⟨[], [], _, _, _, rfl, trivial, rfl⟩ ?_ ?_
  · rintro a l ρ ⟨dn, rs, r, s, b, e1, hb, rfl⟩
    have ha := h a (by rw [e1]; simp)
    have hn : rs.length < 16777216 := by
      have := congrArg List.length e1
      rw [List.length_append, List.length_cons, ← hb.length] at this
      omega
    have c1 : cMul s 48271 = true := cMul2 (by decide) (by decide)
    have c2 : ∀ s, cMul s 69621 = true := fun s => cMul2 (by decide) (by decide)
    have e2 : lims = dn ++ [a] ++ l := by rw [e1, List.append_assoc]; rfl
    cases hb1 : (b && cd (1 < r)) with
    | true =>
      simp_arith only [B__law_draws_1, ha.1, ha.2, hn, hb1]
      exact ⟨_, rfl, dn ++ [a], rs ++ [r % a], _, _, _, e2, hb.snoc (Int.emod_nonneg _ (by omega)) (Int.emod_lt_of_pos _ ha.1), by rw [List.map_append]; rfl⟩
    | false =>
      simp_arith only [B__law_draws_1, ha.1, ha.2, hn, hb1, c1, c2]
      exact ⟨_, rfl, dn ++ [a], rs ++ [_ % a], _, _, _, e2, hb.snoc (Int.emod_nonneg _ (by omega)) (Int.emod_lt_of_pos _ ha.1), by rw [List.map_append]; rfl⟩
  · rintro ρ ⟨dn, rs, r, s, b, e1, hb, rfl⟩
    rw [List.append_nil] at e1
    subst e1
    simp_arith only []
    exact ⟨rs, rfl, hb⟩
def idx (s : Int) (cs : List Int) : Int := cs.foldl (fun a c => a * s + c) 0
def F__law_cell : SF := (sSeq (sIf (bOf (e2 (fD gLt) (eVar 1) (eCB (fD1 gLen) [(eVar 0)])))
  (sRet (eCB (fD1 gInt) [(e2 fIx (eVar 0) (eVar 1))]))
  sNil)
  (sRet (eC (.int 0))))
def f__law_cell : FN := callF 2 F__law_cell
theorem cell_ok (ns : List Int) (k : Nat) : ∃ i : Int, f__law_cell [.list (ns.map .int), .int k] = some (.ret true (.int i)) := by
  by_cases h : (k : Int) < (ns.length : Nat)
  · have hk : k < ns.length := by omega
    have ha : (ns.map PyData.int)[k]? = some (.int ns[k]) := by rw [List.getElem?_map, List.getElem?_eq_getElem hk]; rfl
    simp_arith only [f__law_cell, F__law_cell, h, ha]
    exact ⟨_, rfl⟩
  · simp_arith only [f__law_cell, F__law_cell, h]
    exact ⟨_, rfl⟩
theorem Below.mem : ∀ {rs ls : List Int}, Below rs ls → ∀ r ∈ rs, ∃ l ∈ ls, 0 ≤ r ∧ r < l
  | [], [], _, r, h => by cases h
  | a :: rs, b :: ls, h, r, hr => by
    rcases List.mem_cons.mp hr with e | e
    · rw [e]; exact ⟨b, List.mem_cons_self, h.1, h.2.1⟩
    · obtain ⟨l, h1, h2⟩ := h.2.2.mem r e; exact ⟨l, List.mem_cons_of_mem _ h1, h2⟩
  | [], _ :: _, h, _, _ => h.elim
  | _ :: _, [], h, _, _ => h.elim
theorem Below.rep {rs : List Int} {n : Nat} {s : Int} (h : Below rs (List.replicate n s)) : rs.length = n ∧ ∀ r ∈ rs, 0 ≤ r ∧ r < s := by
  refine ⟨by rw [h.length, List.length_replicate], fun r hr => ?_⟩
  obtain ⟨l, h1, h2⟩ := h.mem r hr
  rw [List.eq_of_mem_replicate h1] at h2
  exact h2
/-- a map's data -/
abbrev mapD (s : Nat) (o : Int) (w : Nat) (t : List Int) : PyData := .tuple [.int s, .int o, .int w, .list (t.map .int)]
def newC (s : Nat) (t : List Int) (ws : List Int) : Int := t.getD (idx s ws).toNat 0
end
end PF
namespace PF
open PySem PySem.Spec PyProof.Rows L2 PL
noncomputable section
def rep (m : Nat) (row : List Int) : List Int := (List.replicate m row).flatten
def IsPer (f : Int → Int) (p : Nat) : Prop := 0 < p ∧ ∀ i, f (i + p) = f i
theorem IsPer.mul {f : Int → Int} {p : Nat} (h : IsPer f p) : ∀ (k : Nat) (i : Int), f (i + (k * p : Nat)) = f i
  | 0, i => by simp
  | k + 1, i => by
    have e : i + ((k + 1) * p : Nat) = i + (k * p : Nat) + p := by rw [Nat.succ_mul]; omega
    rw [e, h.2, IsPer.mul h k]
theorem IsPer.mod {f : Int → Int} {p q : Nat} (hp : IsPer f p) (hq : IsPer f q) (h : 0 < p % q) : IsPer f (p % q) := by
  refine ⟨h, fun i => ?_⟩
  have e1 := hq.mul (p / q) (i + (p % q : Nat))
  have e2 : i + ((p % q : Nat) : Int) + ((p / q * q : Nat) : Int) = i + p := by
    have := Nat.div_add_mod' p q
    omega
  rw [e2, hp.2] at e1
  exact e1.symm
end
end PF
namespace PF
open PySem PySem.Spec PyProof.Rows L2 PL
noncomputable section
/-- cells -/
abbrev Ce (s : Nat) (c : Int) : Prop := 0 ≤ c ∧ c < (s : Int)
abbrev Cf (s : Nat) (x : Int → Int) : Prop := ∀ p, Ce s (x p)
/-- a window -/
def wx (x : Int → Int) (p : Int) (w : Nat) : List Int := (List.range w).map fun (j : Nat) => x (p + (j : Int))
/-- both maps do the same -/
def Sm (s : Nat) (o : Int) (w : Nat) (t : List Int) (o' : Int) (w' : Nat) (t' : List Int) : Prop := ∀ x, Cf s x → ∀ p, newC s t (wx x (p + o) w) = newC s t' (wx x (p + o') w')
theorem Sm.refl (s : Nat) (o : Int) (w : Nat) (t : List Int) : Sm s o w t o w t := fun _ _ _ => rfl
theorem Sm.symm {s : Nat} {o o' : Int} {w w' : Nat} {t t' : List Int} (h : Sm s o w t o' w' t') : Sm s o' w' t' o w t := fun x hx p => (h x hx p).symm
theorem Sm.trans {s : Nat} {o o' o'' : Int} {w w' w'' : Nat} {t t' t'' : List Int} (h : Sm s o w t o' w' t') (h' : Sm s o' w' t' o'' w'' t'') : Sm s o w t o'' w'' t'' := fun x hx p => (h x hx p).trans (h' x hx p)
end
end PF
namespace PF
open PySem PySem.Spec PyProof.Rows L2 PL
noncomputable section
structure PMap (s : Nat) (o : Int) (w : Nat) (t : List Int) : Prop where
  s2 : 2 ≤ s
  s4 : s ≤ 4
  o1 : -1000 ≤ o
  o2 : o ≤ 1000
  w1 : 1 ≤ w
  w6 : w ≤ 12
  len : t.length = s ^ w
  tl : t.length ≤ 4096
  cell : ∀ c ∈ t, 0 ≤ c ∧ c < (s : Int)
theorem PMap.pos {s w : Nat} {o : Int} {t : List Int} (v : PMap s o w t) : 0 < s ∧ s < 1073741824 ∧ s < 18446744073709551616 := by
  have a := v.s2; have b := v.s4
  omega
theorem forT_all {tn : Sl → Ev → Option Out} {ρ : Ev} : ∀ l : List Sl, (∀ x ∈ l, tn x ρ = some (.nx ρ)) → forT tn l ρ = some (.nx ρ)
  | [], _ => rfl
  | a :: l, h => by
    rw [forT, h a List.mem_cons_self]
    exact forT_all l fun x hx => h x (List.mem_cons_of_mem _ hx)
end
end PF
namespace PF
open PySem PySem.Spec PyProof.Rows L2 PL
noncomputable section
def B_table_size_1 : SF := (sSeq (sSetZ 2 (e2 fMul (eVar 2) (eVar 0)))
  (sIf (bOf (e2 (fD gGt) (eVar 2) (eC (.int 4096))))
  sBreak
  sNil))
def F_table_size : SF := (sSeq (sSetZ 2 (eC (.int 1)))
  (sSeq (sForD [3] (iR [(eVar 1)]) (gN 3)
  PF.B_table_size_1)
  (sRet (eVar 2))))
def f_table_size : FN := callF 4 F_table_size
theorem table_size_ok (s w : Nat) (hs : 2 ≤ s) (hs4 : s ≤ 4) (hw : w < 1000000) : ∃ v : Nat, f_table_size [.int s, .int w] = some (.ret true (.int (v : Int))) ∧ (s ^ w ≤ 4096 → v = s ^ w) ∧ (4096 < s ^ w → 4096 < v) := by
  have h6 : small62 (w : Int) = true := small62_ok (by omega) (by omega)
  simp_arith only [f_table_size, F_table_size, h6, rngI_eq, Int.sub_zero, Int.toNat_natCast]
  refine forT_run (fun l ρ => ∃ (k : Nat), l.length + k = w ∧ s ^ k ≤ 4096 ∧ ρ = [.val true (.int s), .val true (.int w), .val true (.int ((s ^ k : Nat) : Int)), .und]) (fun o => ∃ v : Nat, kF (kSeq o (sRet (eVar 2))) = some (.ret true (.int (v : Int))) ∧ (s ^ w ≤ 4096 → v = s ^ w) ∧ (4096 < s ^ w → 4096 < v)) ?_ ?_ _ _ ⟨0, by rw [List.length_range]; rfl, by rw [Nat.pow_zero]; omega, rfl⟩
  · rintro ρ ⟨k, e1, e2, rfl⟩
    rw [List.length_nil, Nat.zero_add] at e1
    subst e1
    simp_arith only []
    exact ⟨s ^ k, rfl, fun _ => rfl, fun h => by omega⟩
  · rintro a l ρ ⟨k, e1, e2, rfl⟩
    rw [List.length_cons] at e1
    have ec : ((s ^ k : Nat) : Int) * (s : Int) = ((s ^ (k + 1) : Nat) : Int) := by rw [Nat.pow_succ, Int.natCast_mul]
    have m1 : cMul ((s ^ k : Nat) : Int) (s : Int) = true := cMul2 (by omega) (by omega)
    by_cases g : (4096 : Int) < ((s ^ (k + 1) : Nat) : Int)
    · right; left
      simp_arith only [B_table_size_1, m1, ec, g]
      refine ⟨_, rfl, ?_⟩
      simp_arith only []
      have g' : 4096 < s ^ (k + 1) := by omega
      have : s ^ (k + 1) ≤ s ^ w := Nat.pow_le_pow_right (by omega) (by omega)
      exact ⟨s ^ (k + 1), rfl, fun h => by omega, fun _ => g'⟩
    · left
      simp_arith only [B_table_size_1, m1, ec, g]
      exact ⟨_, rfl, k + 1, by omega, by omega, rfl⟩
end
end PF
namespace PF
open PySem PySem.Spec PyProof.Rows L2 PL
noncomputable section
def F_shift_map : SF := (sSeq (sIf (bOr (bNot (bOf (eChain gLe gLe (eC (.int 2)) (eVar 0) (eC (.int 4))))) (bNot (bOf (eChain gLe gLe (e1 fNeg (eC (.int 100))) (eVar 1) (eC (.int 100))))))
  (sRaise "OutOfRange")
  sNil)
  (sRet (eTup [(eVar 0), (eVar 1), (eC (.int 1)), (eLc (iR [(eVar 0)]) [2] (gN 2) bYes (eVar 2))])))
def f_shift_map : FN := callF 3 F_shift_map
theorem shift_map_no {S p : Int} (h : ¬ (2 ≤ S ∧ S ≤ 4 ∧ -100 ≤ p ∧ p ≤ 100)) : f_shift_map [.int S, .int p] = some (.exc "OutOfRange") := by
  simp_arith only [f_shift_map, F_shift_map]
  by_cases a1 : 2 ≤ S
  case neg => simp_arith only [a1, false_and]
  by_cases a2 : S ≤ 4
  case neg => simp_arith only [a1, a2]
  by_cases b1 : -100 ≤ p
  case neg => simp_arith only [a1, a2, b1, false_and]
  by_cases b2 : p ≤ 100
  case neg => simp_arith only [a1, a2, b1, b2]
  exact absurd ⟨a1, a2, b1, b2⟩ h
end
end PF
namespace PF
open PySem PySem.Spec PyProof.Rows L2 PL
noncomputable section
abbrev Ar := Int × Int × Int
def arD (a : Ar) : PyData := .tuple [.int a.1, .int a.2.1, .int a.2.2]
abbrev mcD (S N : Int) (A : List Ar) : PyData := .tuple [.int S, .int N, .list (A.map arD)]
def arLt (a b : Ar) : Prop := a.1 < b.1 ∨ (a.1 = b.1 ∧ (a.2.1 < b.2.1 ∨ (a.2.1 = b.2.1 ∧ a.2.2 < b.2.2)))
theorem lt_arD (a b : Ar) : PySem.W.dataLt (arD a) (arD b) = cd (arLt a b) := by
  have e : PySem.W.dataLt (arD a) (arD b) = (decide (a.1 < b.1) || (!decide (b.1 < a.1) && (decide (a.2.1 < b.2.1) || (!decide (b.2.1 < a.2.1) && (decide (a.2.2 < b.2.2) || (!decide (b.2.2 < a.2.2) && false)))))) := by
    unfold PySem.W.dataLt arD
    simp only [PySem.W.keyToks, PySem.W.keyToksAll, List.cons_append, List.nil_append]
    have one : ∀ r t : List (Int ⊕ List Nat), PyProof.Rows.lexLt PyProof.Rows.itemOrd (Sum.inl 1 :: r) (Sum.inl 1 :: t) = PyProof.Rows.lexLt PyProof.Rows.itemOrd r t := fun r t => PyProof.Rows.lex_self (O := PyProof.Rows.itemOrd) _ _ _
    have cons : ∀ (x y : Int) (r t : List (Int ⊕ List Nat)), PyProof.Rows.lexLt PyProof.Rows.itemOrd (Sum.inl x :: r) (Sum.inl y :: t) = (decide (x < y) || (!decide (y < x) && PyProof.Rows.lexLt PyProof.Rows.itemOrd r t)) := fun x y r t => PyProof.Rows.lex_cons (O := PyProof.Rows.itemOrd) _ _ _ _
    rw [one, cons, one, cons, one, cons]
    rfl
  rw [e]
  by_cases h1 : a.1 < b.1 <;> by_cases h2 : b.1 < a.1 <;> by_cases h3 : a.2.1 < b.2.1 <;> by_cases h4 : b.2.1 < a.2.1 <;> by_cases h5 : a.2.2 < b.2.2 <;> by_cases h6 : b.2.2 < a.2.2 <;> first | (exfalso; omega) | rw [cd_true (show arLt a b by unfold arLt; omega)] | rw [cd_false (show ¬ arLt a b by unfold arLt; omega)]
  all_goals simp only [h1, h2, h3, h4, h5, h6, decide_true, decide_false, Bool.true_or, Bool.false_or, Bool.not_true, Bool.not_false, Bool.true_and, Bool.false_and, Bool.or_false]
theorem arD_depth (a : Ar) : (arD a).depth = 1 := by simp only [arD, PyData.depth, PyData.depthAll]; omega
theorem ge_arD (a b : Ar) : gGe (arD a) (arD b) = some (.bool (!cd (arLt a b))) := by
  show (if PySem.W.alike (arD a) (arD b) = true ∧ (arD a).depth ≤ 60 then some (PyData.bool (!PySem.W.dataLt (arD a) (arD b))) else none) = _
  rw [if_pos ⟨rfl, by rw [arD_depth]; omega⟩, lt_arD]
/-- an arrow within -/
def ArIn (S N : Int) (a : Ar) : Prop := (0 ≤ a.1 ∧ a.1 < N) ∧ (0 ≤ a.2.1 ∧ a.2.1 < S) ∧ (0 ≤ a.2.2 ∧ a.2.2 < N)
def B_check_machine_1 : SF := (sIf (bOr (bNot (bOf (eChain gLe gLt (eC (.int 0)) (eVar 4) (eVar 2)))) (bOr (bNot (bOf (eChain gLe gLt (eC (.int 0)) (eVar 5) (eVar 1)))) (bNot (bOf (eChain gLe gLt (eC (.int 0)) (eVar 6) (eVar 2))))))
  (sRaise "BadMachine")
  sNil)
def C_check_machine_2 : EF := (e2 (fD gGe) (e2 fIx (eVar 3) (eVar 7)) (e2 fIx (eVar 3) (e2 fAdd (eVar 7) (eC (.int 1)))))
def F_check_machine : SF := (sSeq (sUnp [1, 2, 3] (eVar 0))
  (sSeq (sIf (bOr (bNot (bOf (eChain gLe gLe (eC (.int 2)) (eVar 1) (eC (.int 4))))) (bNot (bOf (eChain gLe gLe (eC (.int 0)) (eVar 2) (eC (.int 2048))))))
  (sRaise "BadMachine")
  sNil)
  (sSeq (sForD [4, 5, 6] (iL (eVar 3)) (gT [4, 5, 6])
  PF.B_check_machine_1)
  (sIf (tOf (eCB (fD1 gAny) [(eLc (iR [(e2 (fD gSub) (eCB (fD1 gLen) [(eVar 3)]) (eC (.int 1)))]) [7] (gN 7) bYes PF.C_check_machine_2)]))
  (sRaise "BadMachine")
  sNil))))
def f_check_machine : FN := callF 8 F_check_machine
def AscP (A : List Ar) : Prop := ∀ i, i + 1 < A.length → ∃ (h : i + 1 < A.length), arLt (A[i]'(Nat.lt_of_succ_lt h)) A[i + 1]
def MOk (S N : Int) (A : List Ar) : Prop := (2 ≤ S ∧ S ≤ 4) ∧ (0 ≤ N ∧ N ≤ 2048) ∧ (∀ a ∈ A, ArIn S N a) ∧ AscP A
theorem mkv_arD (fr : Bool) (a : Ar) : mkv fr (arD a) = .val fr (arD a) := by show Sl.val (fr || false) (arD a) = _; rw [Bool.or_false]
theorem mkA (fr : Bool) (A : List Ar) : (A.map arD).map (mkv fr) = A.map fun a => Sl.val fr (arD a) := by
  rw [List.map_map]
  exact List.map_congr_left fun a _ => by show Sl.val (fr || false) (arD a) = _; rw [Bool.or_false]
theorem any_range_cd {n : Nat} {p : Nat → Prop} : ((List.range n).map fun j => cd (p j)).any id = cd (∃ j, j < n ∧ p j) := by
  rw [List.any_map]
  by_cases e : ∃ j, j < n ∧ p j
  · rw [cd_true e, List.any_eq_true]
    obtain ⟨j, h1, h2⟩ := e
    exact ⟨j, List.mem_range.mpr h1, cd_true h2⟩
  · rw [cd_false e, ← Bool.not_eq_true, List.any_eq_true]
    rintro ⟨j, h1, h2⟩
    exact e ⟨j, List.mem_range.mp h1, of_cd h2⟩
theorem check_machine_ok (S N : Int) (A : List Ar) (hl : A.length < 1000000) : f_check_machine [mcD S N A] = if cd (MOk S N A) = true then some (.ret true .none) else some (.exc "BadMachine") := by
  simp_arith only [f_check_machine, F_check_machine]
  by_cases a1 : 2 ≤ S
  case neg => rw [if_neg (by rw [cd_false fun z => a1 z.1.1]; exact Bool.false_ne_true)]; simp_arith only [a1, false_and]
  by_cases a2 : S ≤ 4
  case neg => rw [if_neg (by rw [cd_false fun z => a2 z.1.2]; exact Bool.false_ne_true)]; simp_arith only [a1, a2]
  by_cases b1 : 0 ≤ N
  case neg => rw [if_neg (by rw [cd_false fun z => b1 z.2.1.1]; exact Bool.false_ne_true)]; simp_arith only [a1, a2, b1, false_and]
  by_cases b2 : N ≤ 2048
  case neg => rw [if_neg (by rw [cd_false fun z => b2 z.2.1.2]; exact Bool.false_ne_true)]; simp_arith only [a1, a2, b1, b2]
  simp_arith only [a1, a2, b1, b2]
  rw [mkA]
  refine forT_run (fun l ρ => (∀ a ∈ A, a ∈ l ∨ ArIn S N a) ∧ (∀ a ∈ l, a ∈ A) ∧ ρ = [.val false (mcD S N A), .val true (.int S), .val true (.int N), .val false (.list (A.map arD)), .und, .und, .und, .und]) (fun o => kF (kSeq o (sIf (tOf (eCB (fD1 gAny) [eLc (iR [PL.e2 (fD PL.gSub) (eCB (fD1 gLen) [eVar 3]) (eC (PyData.int 1))]) [7] (gN 7) bYes C_check_machine_2])) (sRaise (Str.ofString "BadMachine")) sNil)) = if cd (MOk S N A) = true then some (.ret true .none) else some (.exc "BadMachine")) ?_ ?_ _ _ ⟨fun a ha => .inl ha, fun a ha => ha, rfl⟩
  · rintro ρ ⟨h1, -, rfl⟩
    have inn : ∀ a ∈ A, ArIn S N a := fun a ha => (h1 a ha).resolve_left (by simp)
    have e1 : (A.length : Int) - 1 = ((A.length - 1 : Nat) : Int) ∨ A = [] := by
      rcases Nat.eq_zero_or_pos A.length with z | z
      · exact .inr (List.length_eq_zero_iff.mp z)
      · exact .inl (by omega)
    have key := lcL_map (t := gN 7) (elt := C_check_machine_2) (ρ := [.val false (mcD S N A), .val true (.int S), .val true (.int N), .val false (.list (A.map arD)), .und, .und, .und, .und]) (mk := mkN 0) (r := fun (j : Nat) => .bool (cd (¬ ∃ h : j + 1 < A.length, arLt (A[j]'(Nat.lt_of_succ_lt h)) A[j + 1]))) (List.range (A.length - 1)) (fun j hj => by
      have jl : j + 1 < A.length := by have := List.mem_range.mp hj; omega
      have jl' : j < A.length := by omega
      have k1 : (A.map arD)[j]? = some (arD A[j]) := by rw [List.getElem?_map, List.getElem?_eq_getElem jl']; rfl
      have k2 : (A.map arD)[j + 1]? = some (arD A[j + 1]) := by rw [List.getElem?_map, List.getElem?_eq_getElem jl]; rfl
      have k3 : (j : Int) + 1 = ((j + 1 : Nat) : Int) := by omega
      have k4 : (!cd (arLt A[j] A[j + 1])) = cd (¬ ∃ h : j + 1 < A.length, arLt (A[j]'(Nat.lt_of_succ_lt h)) A[j + 1]) := by
        by_cases q : arLt A[j] A[j + 1]
        · rw [cd_true q, cd_false (fun z => z ⟨jl, q⟩)]; rfl
        · rw [cd_false q, cd_true (fun ⟨_, z⟩ => q z)]; rfl
      simp_arith only [C_check_machine_2, mkN_eq, Int.zero_add, k3, atI_cast, k1, k2, mkv_arD, ge_arD, k4])
    have e3 : ((List.range (A.length - 1)).map fun (j : Nat) => PyData.bool (cd (¬ ∃ h : j + 1 < A.length, arLt (A[j]'(Nat.lt_of_succ_lt h)) A[j + 1]))) = ((List.range (A.length - 1)).map fun (j : Nat) => cd (¬ ∃ h : j + 1 < A.length, arLt (A[j]'(Nat.lt_of_succ_lt h)) A[j + 1])).map .bool := by rw [List.map_map]; rfl
    rw [e3] at key
    have r1 : small62 ((A.length : Int) - 1) = true := small62_ok (by omega) (by omega)
    have tn : ((A.length : Int) - 1).toNat = A.length - 1 := by omega
    have z : A.length - 1 ≤ 16777216 := by omega
    by_cases as : AscP A
    · rw [if_pos (cd_true ⟨⟨a1, a2⟩, ⟨b1, b2⟩, inn, as⟩)]
      have no : ¬ ∃ j, j < A.length - 1 ∧ ¬ ∃ h : j + 1 < A.length, arLt (A[j]'(Nat.lt_of_succ_lt h)) A[j + 1] := fun ⟨j, h1, h2⟩ => h2 (as j (by omega))
      simp_arith only [r1, rngI_eq, Int.sub_zero, tn, key, List.length_range, z, any_range_cd, cd_false no]
    · rw [if_neg (by rw [cd_false fun z => as z.2.2.2]; exact Bool.false_ne_true)]
      have yes : ∃ j, j < A.length - 1 ∧ ¬ ∃ h : j + 1 < A.length, arLt (A[j]'(Nat.lt_of_succ_lt h)) A[j + 1] := Classical.byContradiction fun n => as fun j hj => Classical.byContradiction fun h => n ⟨j, by omega, h⟩
      simp_arith only [r1, rngI_eq, Int.sub_zero, tn, key, List.length_range, z, any_range_cd, cd_true yes]
  · rintro b l ρ ⟨h1, h2, rfl⟩
    by_cases hb : ArIn S N b
    · left
      obtain ⟨⟨g1, g2⟩, ⟨g3, g4⟩, ⟨g5, g6⟩⟩ := id hb
      simp_arith only [B_check_machine_1, arD, g1, g2, g3, g4, g5, g6]
      refine ⟨_, rfl, fun a ha => ?_, fun a ha => h2 a (List.mem_cons_of_mem _ ha), rfl⟩
      rcases h1 a ha with h | h
      · rcases List.mem_cons.mp h with rfl | h
        · exact .inr hb
        · exact .inl h
      · exact .inr h
    · right; right; right
      rw [if_neg (by rw [cd_false fun z => hb (z.2.2.1 b (h2 b List.mem_cons_self))]; exact Bool.false_ne_true)]
      have fin : ∃ ρ', turn [4, 5, 6] (gT [4, 5, 6]) B_check_machine_1 (.val false (arD b)) [.val false (mcD S N A), .val true (.int S), .val true (.int N), .val false (.list (A.map arD)), .und, .und, .und, .und] = some (.ex "BadMachine" ρ') := by
        by_cases g1 : 0 ≤ b.1
        case neg => simp_arith only [B_check_machine_1, arD, g1, false_and]; exact ⟨_, rfl⟩
        by_cases g2 : b.1 < N
        case neg => simp_arith only [B_check_machine_1, arD, g1, g2]; exact ⟨_, rfl⟩
        by_cases g3 : 0 ≤ b.2.1
        case neg => simp_arith only [B_check_machine_1, arD, g1, g2, g3, false_and]; exact ⟨_, rfl⟩
        by_cases g4 : b.2.1 < S
        case neg => simp_arith only [B_check_machine_1, arD, g1, g2, g3, g4]; exact ⟨_, rfl⟩
        by_cases g5 : 0 ≤ b.2.2
        case neg => simp_arith only [B_check_machine_1, arD, g1, g2, g3, g4, g5, false_and]; exact ⟨_, rfl⟩
        by_cases g6 : b.2.2 < N
        case neg => simp_arith only [B_check_machine_1, arD, g1, g2, g3, g4, g5, g6]; exact ⟨_, rfl⟩
        exact absurd ⟨⟨g1, g2⟩, ⟨g3, g4⟩, ⟨g5, g6⟩⟩ hb
      obtain ⟨ρ', e⟩ := fin
      refine ⟨_, ρ', e, ?_⟩
      simp_arith only []
end
end PF
namespace PF
open PySem PySem.Spec PyProof.Rows L2 PL
noncomputable section
/-- what may follow -/
def nx1 (A : List Ar) (P : Int → Prop) (c : Int) : Int → Prop := fun t => ∃ s, P s ∧ (s, c, t) ∈ A
theorem nx1_in {S N : Nat} {A : List Ar} (hA : ∀ a ∈ A, ArIn S N a) {P : Int → Prop} {c t : Int} (h : nx1 A P c t) : 0 ≤ t ∧ t < N := by
  obtain ⟨s, -, h⟩ := h
  exact (hA _ h).2.2
/-- a number that holds the set P -/
def Bits (N : Nat) (P : Int → Prop) (R : Nat) : Prop := R < 2 ^ N ∧ ∀ t : Nat, R.testBit t = true ↔ P t
theorem Bits.nx {S N : Nat} {A : List Ar} (hA : ∀ a ∈ A, ArIn S N a) {P : Int → Prop} {R R' : Nat} (h : Bits N P R) {c : Nat} {g : Nat → Nat} (hg : ∀ s t : Nat, (g s).testBit t = true ↔ ((s : Int), (c : Int), (t : Int)) ∈ A) (h' : ∀ t, R'.testBit t = true ↔ ∃ s, R.testBit s = true ∧ (g s).testBit t = true) : Bits N (nx1 A P c) R' := by
  have key : ∀ t : Nat, R'.testBit t = true ↔ nx1 A P c t := fun t => by
    rw [h']
    constructor
    · rintro ⟨s, h1, h2⟩
      exact ⟨s, (h.2 s).mp h1, (hg s t).mp h2⟩
    · rintro ⟨s, h1, h2⟩
      obtain ⟨s, rfl⟩ := Int.eq_ofNat_of_zero_le (hA _ h2).1.1
      exact ⟨s, (h.2 s).mpr h1, (hg s t).mpr h2⟩
  refine ⟨Nat.lt_pow_two_of_testBit _ fun t ht => ?_, key⟩
  rw [← Bool.not_eq_true, key]
  intro z
  have := (nx1_in hA z).2
  omega
end
end PF
namespace PF
open PySem PySem.Spec PyProof.Rows L2 PL
noncomputable section
def B_count_words_1 : SF := (sSetZ 2 (e2 fMul (eVar 2) (eVar 0)))
def F_count_words : SF := (sSeq (sSetZ 2 (eC (.int 1)))
  (sSeq (sForD [3] (iR [(eVar 1)]) (gN 3)
  PF.B_count_words_1)
  (sRet (eVar 2))))
def f_count_words : FN := callF 4 F_count_words
theorem count_words_ok (s e : Nat) (hs : s < 18446744073709551616) (he : e < 4611686018427387904) : f_count_words [.int s, .int e] = some (.ret true (.int ((s ^ e : Nat) : Int))) := by
  have h6 : small62 (e : Int) = true := small62_ok (by omega) (by omega)
  have hc : ∀ i : Int, cMul i s = true := fun i => cMul2 (by omega) (by omega)
  simp_arith only [f_count_words, F_count_words, h6, rngI_eq]
  refine forT_nx (fun l ρ => ∃ n : Nat, n + l.length = e ∧ ρ = [.val true (.int s), .val true (.int e), .val true (.int ((s ^ n : Nat) : Int)), .und]) (fun o => kF (kSeq o _) = _) ⟨0, ?_, rfl⟩ ?_ ?_
  · rw [List.length_range]; omega
  · rintro a l ρ ⟨n, e1, rfl⟩
    simp_arith only [B_count_words_1, mkN_eq, hc]
    refine ⟨_, rfl, n + 1, by rw [List.length_cons] at e1; omega, ?_⟩
    rw [Nat.pow_succ, Int.natCast_mul]
  · rintro ρ ⟨n, e1, rfl⟩
    simp_arith only []
    rw [show n = e from e1]
end
end PF
namespace PF
open PySem PySem.Spec PyProof.Rows L2 PL
noncomputable section
def C_check_map_1 : EF := (eChain gLe gLt (eC (.int 0)) (eVar 5) (eVar 1))
def F_check_map : SF := (sSeq (sUnp [1, 2, 3, 4] (eVar 0))
  (sSeq (sIf (bOr (bNot (bOf (eChain gLe gLe (eC (.int 2)) (eVar 1) (eC (.int 4))))) (bNot (bOf (eChain gLe gLe (e1 fNeg (eC (.int 100))) (eVar 2) (eC (.int 100))))))
  (sRaise "BadMap")
  sNil)
  (sSeq (sIf (bOr (bNot (bOf (eChain gLe gLe (eC (.int 1)) (eVar 3) (eC (.int 4096))))) (bOr (bOf (e2 (fD gGt) (eCall PF.f_table_size [(eVar 1), (eVar 3)]) (eC (.int 4096)))) (bOf (e2 (fD gNe) (eCB (fD1 gLen) [(eVar 4)]) (eCall PF.f_table_size [(eVar 1), (eVar 3)])))))
  (sRaise "BadMap")
  sNil)
  (sIf (bNot (tOf (eCB (fD1 gAll) [(eLc (iL (eVar 4)) [5] (gN 5) bYes PF.C_check_map_1)])))
  (sRaise "BadMap")
  sNil))))
def f_check_map : FN := callF 6 F_check_map
abbrev mapZ (S O W : Int) (T : List Int) : PyData := .tuple [.int S, .int O, .int W, .list (T.map .int)]
/-- a valid map -/
def VM (S O W : Int) (T : List Int) : Prop := (2 ≤ S ∧ S ≤ 4) ∧ (-100 ≤ O ∧ O ≤ 100) ∧ (1 ≤ W ∧ W ≤ 4096) ∧ (S.toNat ^ W.toNat ≤ 4096 ∧ T.length = S.toNat ^ W.toNat) ∧ ∀ c ∈ T, 0 ≤ c ∧ c < S
theorem all_cd2 {t : List Int} {p : Int → Prop} : (t.map fun c => cd (p c)).all id = cd (∀ c ∈ t, p c) := by
  rw [List.all_map]
  by_cases e : ∀ c ∈ t, p c
  · rw [cd_true e, List.all_eq_true]
    intro c hc
    exact cd_true (e c hc)
  · rw [cd_false e, ← Bool.not_eq_true, List.all_eq_true]
    intro z
    exact e fun c hc => of_cd (z c hc)
theorem if_no {α : Type} {p : Prop} {a b : α} (h : ¬ p) : (if cd p = true then a else b) = b := if_neg (by rw [cd_false h]; exact Bool.false_ne_true)
theorem if_yes {α : Type} {p : Prop} {a b : α} (h : p) : (if cd p = true then a else b) = a := if_pos (cd_true h)
theorem check_map_ok (S O W : Int) (T : List Int) (hl : T.length < 16000000) : f_check_map [mapZ S O W T] = if cd (VM S O W T) = true then some (.ret true .none) else some (.exc "BadMap") := by
  simp_arith only [f_check_map, F_check_map]
  by_cases a1 : 2 ≤ S
  case neg => rw [if_no fun z => a1 z.1.1]; simp_arith only [a1, false_and]
  by_cases a2 : S ≤ 4
  case neg => rw [if_no fun z => a2 z.1.2]; simp_arith only [a1, a2]
  by_cases b1 : -100 ≤ O
  case neg => rw [if_no fun z => b1 z.2.1.1]; simp_arith only [a1, a2, b1, false_and]
  by_cases b2 : O ≤ 100
  case neg => rw [if_no fun z => b2 z.2.1.2]; simp_arith only [a1, a2, b1, b2]
  by_cases c1 : 1 ≤ W
  case neg => rw [if_no fun z => c1 z.2.2.1.1]; simp_arith only [a1, a2, b1, b2, c1, false_and]
  by_cases c2 : W ≤ 4096
  case neg => rw [if_no fun z => c2 z.2.2.1.2]; simp_arith only [a1, a2, b1, b2, c1, c2]
  obtain ⟨s, rfl⟩ := Int.eq_ofNat_of_zero_le (show 0 ≤ S by omega)
  obtain ⟨w, rfl⟩ := Int.eq_ofNat_of_zero_le (show 0 ≤ W by omega)
  obtain ⟨v, v1, v2, v3⟩ := table_size_ok s w (by omega) (by omega) (by omega)
  have key := lcL_map (t := gN 5) (elt := C_check_map_1) (ρ := [.val false (mapZ s O w T), .val true (.int s), .val true (.int O), .val true (.int w), .val false (.list (T.map .int)), .und]) (mk := mkI) (r := fun c => .bool (cd (0 ≤ c ∧ c < (s : Int)))) T (fun c hc => by
    by_cases d1 : 0 ≤ c
    · by_cases d2 : c < (s : Int)
      · simp_arith only [C_check_map_1, mkI_eq, d1, d2]
      · simp_arith only [C_check_map_1, mkI_eq, d1, d2]
    · simp_arith only [C_check_map_1, mkI_eq, d1, false_and])
  have e3 : (T.map fun c => PyData.bool (cd (0 ≤ c ∧ c < (s : Int)))) = (T.map fun c => cd (0 ≤ c ∧ c < (s : Int))).map .bool := by rw [List.map_map]; rfl
  rw [e3] at key
  have z : T.length ≤ 16777216 := by omega
  by_cases e1 : s ^ w ≤ 4096
  case neg =>
    have g : (4096 : Int) < (v : Int) := by have := v3 (by omega); omega
    rw [if_no fun z => e1 z.2.2.2.1.1]
    simp_arith only [a1, a2, b1, b2, c1, c2, v1, g]
  have g : ¬ (4096 : Int) < (v : Int) := by have := v2 e1; omega
  by_cases e2 : (T.length : Int) = (v : Int)
  case neg =>
    rw [if_no fun z => e2 (by have h1 := z.2.2.2.1.2; have h2 := v2 e1; simp only [Int.toNat_natCast] at h1; omega)]
    simp_arith only [a1, a2, b1, b2, c1, c2, v1, g, e2]
  by_cases e4 : ∀ c ∈ T, 0 ≤ c ∧ c < (s : Int)
  · rw [if_yes ⟨⟨a1, a2⟩, ⟨b1, b2⟩, ⟨c1, c2⟩, ⟨by simp only [Int.toNat_natCast]; exact e1, by simp only [Int.toNat_natCast]; have h2 := v2 e1; omega⟩, e4⟩]
    simp_arith only [a1, a2, b1, b2, c1, c2, v1, g, e2, key, z, all_cd2, cd_true e4]
  · rw [if_no fun z => e4 z.2.2.2.2]
    simp_arith only [a1, a2, b1, b2, c1, c2, v1, g, e2, key, z, all_cd2, cd_false e4]
end
end PF
namespace PF
open PySem PySem.Spec PyProof.Rows L2 PL
noncomputable section
def F_require : SF := (sIf (bNot (tOf (eVar 0)))
  (sRaiseV "BadCommand" (eVar 1))
  sNil)
def f_require : FN := callF 2 F_require
theorem require_yes (m : Str) : f_require [.bool true, .str m] = some (.ret true .none) := by
  simp_arith only [f_require, F_require]
theorem require_no (m : Str) : f_require [.bool false, .str m] = some (.exc "BadCommand") := by
  simp_arith only [f_require, F_require]
def F_PairGraph____init__ : SF := (sSeq (sUnpF 1 0 [.inr "size", .inl 2, .inr "width", .inr "table"] (eVar 1))
  (sSeq (sFldS 1 0 "states" (eCall PF.f_count_words [(eFld 1 0 "size"), (e2 (fD gSub) (eFld 1 0 "width") (eC (.int 1)))]))
  (sIf (bOf (e2 (fD gGt) (eFld 1 0 "states") (eC (.int 150))))
  (sRaise "TooLong")
  sNil)))
def f_PairGraph____init__ : FI := callI 3 1 F_PairGraph____init__
theorem pair_init {s w : Nat} {o : Int} {T : List PyData} (s0 : 0 < s) (s4 : s ≤ 4) (w1 : 1 ≤ w) (w9 : w < 1000000) : f_PairGraph____init__ [.tuple [.int s, .int o, .int w, .list T]] = if cd (s ^ (w - 1) ≤ 150) = true then some (.ok [("size", .int s), ("width", .int w), ("table", .list T), ("states", .int ((s ^ (w - 1) : Nat) : Int))]) else some (.exc "TooLong") := by
  have cw := count_words_ok s (w - 1) (by omega) (by omega)
  have e1 : ((w - 1 : Nat) : Int) = (w : Int) - 1 := by omega
  rw [e1] at cw
  have k1 : (List.lookup (Str.ofString "size") ([] : Fds)) = none := rfl
  have k2 : List.lookup (Str.ofString "width") ([(Str.ofString "size", PyData.int s)] : Fds) = none := rfl
  have k3 : List.lookup (Str.ofString "table") ([(Str.ofString "size", PyData.int s), (Str.ofString "width", .int w)] : Fds) = none := rfl
  have k4 : List.lookup (Str.ofString "states") ([(Str.ofString "size", PyData.int s), (Str.ofString "width", .int w), (Str.ofString "table", .list T)] : Fds) = none := rfl
  have k5 : List.lookup (Str.ofString "size") ([(Str.ofString "size", PyData.int s), (Str.ofString "width", .int w), (Str.ofString "table", .list T)] : Fds) = some (.int s) := rfl
  have k6 : List.lookup (Str.ofString "width") ([(Str.ofString "size", PyData.int s), (Str.ofString "width", .int w), (Str.ofString "table", .list T)] : Fds) = some (.int w) := rfl
  have k7 : List.lookup (Str.ofString "states") ([(Str.ofString "size", PyData.int s), (Str.ofString "width", .int w), (Str.ofString "table", .list T), (Str.ofString "states", .int ((s ^ (w - 1) : Nat) : Int))] : Fds) = some (.int ((s ^ (w - 1) : Nat) : Int)) := rfl
  simp_arith only [f_PairGraph____init__, F_PairGraph____init__, gFs_inr k1 (by decide), gFs_inr k2 (by simp), gFs_inr k3 (by simp), gFs_inl (show (2 == 0) = false from rfl), List.nil_append, List.cons_append, kUF2_ok, kFl_obm k5, kFl_obm k6, cw, kFS_ok k4 (by simp), kFl_obm k7]
  by_cases h : s ^ (w - 1) ≤ 150
  · have g : ¬ (150 : Int) < ((s ^ (w - 1) : Nat) : Int) := by omega
    rw [if_yes h]
    simp_arith only [g, selfOf_eq]
  · have g : (150 : Int) < ((s ^ (w - 1) : Nat) : Int) := by omega
    rw [if_no h]
    simp_arith only [g]
def F_Desk____init__ : SF := (sSeq (sExpr (eCall PF.f_check_map [(eVar 1)]))
  (sFldS 4 0 "map" (eTup [(e2 fIx (eVar 1) (eC (.int 0))), (e2 fIx (eVar 1) (eC (.int 1))), (e2 fIx (eVar 1) (eC (.int 2))), (eCB fLs [(e2 fIx (eVar 1) (eC (.int 3)))])])))
def f_Desk____init__ : FI := callI 2 4 F_Desk____init__
theorem desk_init {s w : Nat} {o : Int} {t : List Int} (v : VM s o w t) (hl : t.length < 16000000) : f_Desk____init__ [mapD s o w t] = some (.ok [("map", mapD s o w t)]) := by
  have c := check_map_ok s o w t hl
  rw [if_yes v] at c
  have c' : f_check_map [mapD s o w t] = some (.ret true .none) := c
  have k1 : List.lookup (Str.ofString "map") ([] : Fds) = none := rfl
  simp_arith only [f_Desk____init__, F_Desk____init__, c', atI_0, atI_1, atI_2, atI_3, kFS_ok k1 (by decide)]
theorem desk_init_no {S O W : Int} {T : List Int} (v : ¬ VM S O W T) (hl : T.length < 16000000) : f_Desk____init__ [mapZ S O W T] = some (.exc "BadMap") := by
  have c := check_map_ok S O W T hl
  rw [if_no v] at c
  have c' : f_check_map [.tuple [.int S, .int O, .int W, .list (T.map .int)]] = some (.exc "BadMap") := c
  simp_arith only [f_Desk____init__, F_Desk____init__, c']
end
end PF
namespace PF
open PySem PySem.Spec PyProof.Rows L2 PL
noncomputable section
theorem gEq_lst (xs ys : List PyData) (b : Bool) (h1 : (PyData.list xs).depth ≤ 60) (h2 : PyData.eqv (.list xs) (.list ys) = b) : gEq (.list xs) (.list ys) = some (.bool b) := by
  show (if (PyData.list xs).depth ≤ 60 then some (PyData.bool (PyData.eqv (.list xs) (.list ys))) else none) = _
  rw [if_pos h1, h2]
theorem xS_list (ds : List PyData) : xS (some (.ret true (.list ds))) = some (.ok (.full (.list ds))) := rfl
def F__law_kinds : SF := (sRet (eList [(eIsE 0 [("RowError", false), ("BadMap", true), ("BadMachine", false), ("OutOfRange", false), ("TooLong", false), ("BadCommand", false)]), (eIsE 0 [("RowError", false), ("BadMap", false), ("BadMachine", true), ("OutOfRange", false), ("TooLong", false), ("BadCommand", false)]), (eIsE 0 [("RowError", false), ("BadMap", false), ("BadMachine", false), ("OutOfRange", true), ("TooLong", false), ("BadCommand", false)]), (eIsE 0 [("RowError", false), ("BadMap", false), ("BadMachine", false), ("OutOfRange", false), ("TooLong", true), ("BadCommand", false)]), (eIsE 0 [("RowError", false), ("BadMap", false), ("BadMachine", false), ("OutOfRange", false), ("TooLong", false), ("BadCommand", true)])]))
def f__law_kinds : FX := callX 1 F__law_kinds
theorem kinds_RowError : f__law_kinds "RowError" [] = some (.ret true (.list [.bool false, .bool false, .bool false, .bool false, .bool false])) := by
  have t0 : List.lookup (Str.ofString "RowError") [(Str.ofString "RowError", false), (Str.ofString "BadMap", true), (Str.ofString "BadMachine", false), (Str.ofString "OutOfRange", false), (Str.ofString "TooLong", false), (Str.ofString "BadCommand", false)] = some false := rfl
  have t1 : List.lookup (Str.ofString "RowError") [(Str.ofString "RowError", false), (Str.ofString "BadMap", false), (Str.ofString "BadMachine", true), (Str.ofString "OutOfRange", false), (Str.ofString "TooLong", false), (Str.ofString "BadCommand", false)] = some false := rfl
  have t2 : List.lookup (Str.ofString "RowError") [(Str.ofString "RowError", false), (Str.ofString "BadMap", false), (Str.ofString "BadMachine", false), (Str.ofString "OutOfRange", true), (Str.ofString "TooLong", false), (Str.ofString "BadCommand", false)] = some false := rfl
  have t3 : List.lookup (Str.ofString "RowError") [(Str.ofString "RowError", false), (Str.ofString "BadMap", false), (Str.ofString "BadMachine", false), (Str.ofString "OutOfRange", false), (Str.ofString "TooLong", true), (Str.ofString "BadCommand", false)] = some false := rfl
  have t4 : List.lookup (Str.ofString "RowError") [(Str.ofString "RowError", false), (Str.ofString "BadMap", false), (Str.ofString "BadMachine", false), (Str.ofString "OutOfRange", false), (Str.ofString "TooLong", false), (Str.ofString "BadCommand", true)] = some false := rfl
  simp_arith only [f__law_kinds, F__law_kinds, t0, t1, t2, t3, t4]
theorem kinds_BadMap : f__law_kinds "BadMap" [] = some (.ret true (.list [.bool true, .bool false, .bool false, .bool false, .bool false])) := by
  have t0 : List.lookup (Str.ofString "BadMap") [(Str.ofString "RowError", false), (Str.ofString "BadMap", true), (Str.ofString "BadMachine", false), (Str.ofString "OutOfRange", false), (Str.ofString "TooLong", false), (Str.ofString "BadCommand", false)] = some true := rfl
  have t1 : List.lookup (Str.ofString "BadMap") [(Str.ofString "RowError", false), (Str.ofString "BadMap", false), (Str.ofString "BadMachine", true), (Str.ofString "OutOfRange", false), (Str.ofString "TooLong", false), (Str.ofString "BadCommand", false)] = some false := rfl
  have t2 : List.lookup (Str.ofString "BadMap") [(Str.ofString "RowError", false), (Str.ofString "BadMap", false), (Str.ofString "BadMachine", false), (Str.ofString "OutOfRange", true), (Str.ofString "TooLong", false), (Str.ofString "BadCommand", false)] = some false := rfl
  have t3 : List.lookup (Str.ofString "BadMap") [(Str.ofString "RowError", false), (Str.ofString "BadMap", false), (Str.ofString "BadMachine", false), (Str.ofString "OutOfRange", false), (Str.ofString "TooLong", true), (Str.ofString "BadCommand", false)] = some false := rfl
  have t4 : List.lookup (Str.ofString "BadMap") [(Str.ofString "RowError", false), (Str.ofString "BadMap", false), (Str.ofString "BadMachine", false), (Str.ofString "OutOfRange", false), (Str.ofString "TooLong", false), (Str.ofString "BadCommand", true)] = some false := rfl
  simp_arith only [f__law_kinds, F__law_kinds, t0, t1, t2, t3, t4]
theorem kinds_BadMachine : f__law_kinds "BadMachine" [] = some (.ret true (.list [.bool false, .bool true, .bool false, .bool false, .bool false])) := by
  have t0 : List.lookup (Str.ofString "BadMachine") [(Str.ofString "RowError", false), (Str.ofString "BadMap", true), (Str.ofString "BadMachine", false), (Str.ofString "OutOfRange", false), (Str.ofString "TooLong", false), (Str.ofString "BadCommand", false)] = some false := rfl
  have t1 : List.lookup (Str.ofString "BadMachine") [(Str.ofString "RowError", false), (Str.ofString "BadMap", false), (Str.ofString "BadMachine", true), (Str.ofString "OutOfRange", false), (Str.ofString "TooLong", false), (Str.ofString "BadCommand", false)] = some true := rfl
  have t2 : List.lookup (Str.ofString "BadMachine") [(Str.ofString "RowError", false), (Str.ofString "BadMap", false), (Str.ofString "BadMachine", false), (Str.ofString "OutOfRange", true), (Str.ofString "TooLong", false), (Str.ofString "BadCommand", false)] = some false := rfl
  have t3 : List.lookup (Str.ofString "BadMachine") [(Str.ofString "RowError", false), (Str.ofString "BadMap", false), (Str.ofString "BadMachine", false), (Str.ofString "OutOfRange", false), (Str.ofString "TooLong", true), (Str.ofString "BadCommand", false)] = some false := rfl
  have t4 : List.lookup (Str.ofString "BadMachine") [(Str.ofString "RowError", false), (Str.ofString "BadMap", false), (Str.ofString "BadMachine", false), (Str.ofString "OutOfRange", false), (Str.ofString "TooLong", false), (Str.ofString "BadCommand", true)] = some false := rfl
  simp_arith only [f__law_kinds, F__law_kinds, t0, t1, t2, t3, t4]
theorem kinds_OutOfRange : f__law_kinds "OutOfRange" [] = some (.ret true (.list [.bool false, .bool false, .bool true, .bool false, .bool false])) := by
  have t0 : List.lookup (Str.ofString "OutOfRange") [(Str.ofString "RowError", false), (Str.ofString "BadMap", true), (Str.ofString "BadMachine", false), (Str.ofString "OutOfRange", false), (Str.ofString "TooLong", false), (Str.ofString "BadCommand", false)] = some false := rfl
  have t1 : List.lookup (Str.ofString "OutOfRange") [(Str.ofString "RowError", false), (Str.ofString "BadMap", false), (Str.ofString "BadMachine", true), (Str.ofString "OutOfRange", false), (Str.ofString "TooLong", false), (Str.ofString "BadCommand", false)] = some false := rfl
  have t2 : List.lookup (Str.ofString "OutOfRange") [(Str.ofString "RowError", false), (Str.ofString "BadMap", false), (Str.ofString "BadMachine", false), (Str.ofString "OutOfRange", true), (Str.ofString "TooLong", false), (Str.ofString "BadCommand", false)] = some true := rfl
  have t3 : List.lookup (Str.ofString "OutOfRange") [(Str.ofString "RowError", false), (Str.ofString "BadMap", false), (Str.ofString "BadMachine", false), (Str.ofString "OutOfRange", false), (Str.ofString "TooLong", true), (Str.ofString "BadCommand", false)] = some false := rfl
  have t4 : List.lookup (Str.ofString "OutOfRange") [(Str.ofString "RowError", false), (Str.ofString "BadMap", false), (Str.ofString "BadMachine", false), (Str.ofString "OutOfRange", false), (Str.ofString "TooLong", false), (Str.ofString "BadCommand", true)] = some false := rfl
  simp_arith only [f__law_kinds, F__law_kinds, t0, t1, t2, t3, t4]
theorem kinds_TooLong : f__law_kinds "TooLong" [] = some (.ret true (.list [.bool false, .bool false, .bool false, .bool true, .bool false])) := by
  have t0 : List.lookup (Str.ofString "TooLong") [(Str.ofString "RowError", false), (Str.ofString "BadMap", true), (Str.ofString "BadMachine", false), (Str.ofString "OutOfRange", false), (Str.ofString "TooLong", false), (Str.ofString "BadCommand", false)] = some false := rfl
  have t1 : List.lookup (Str.ofString "TooLong") [(Str.ofString "RowError", false), (Str.ofString "BadMap", false), (Str.ofString "BadMachine", true), (Str.ofString "OutOfRange", false), (Str.ofString "TooLong", false), (Str.ofString "BadCommand", false)] = some false := rfl
  have t2 : List.lookup (Str.ofString "TooLong") [(Str.ofString "RowError", false), (Str.ofString "BadMap", false), (Str.ofString "BadMachine", false), (Str.ofString "OutOfRange", true), (Str.ofString "TooLong", false), (Str.ofString "BadCommand", false)] = some false := rfl
  have t3 : List.lookup (Str.ofString "TooLong") [(Str.ofString "RowError", false), (Str.ofString "BadMap", false), (Str.ofString "BadMachine", false), (Str.ofString "OutOfRange", false), (Str.ofString "TooLong", true), (Str.ofString "BadCommand", false)] = some true := rfl
  have t4 : List.lookup (Str.ofString "TooLong") [(Str.ofString "RowError", false), (Str.ofString "BadMap", false), (Str.ofString "BadMachine", false), (Str.ofString "OutOfRange", false), (Str.ofString "TooLong", false), (Str.ofString "BadCommand", true)] = some false := rfl
  simp_arith only [f__law_kinds, F__law_kinds, t0, t1, t2, t3, t4]
theorem kinds_BadCommand : f__law_kinds "BadCommand" [] = some (.ret true (.list [.bool false, .bool false, .bool false, .bool false, .bool true])) := by
  have t0 : List.lookup (Str.ofString "BadCommand") [(Str.ofString "RowError", false), (Str.ofString "BadMap", true), (Str.ofString "BadMachine", false), (Str.ofString "OutOfRange", false), (Str.ofString "TooLong", false), (Str.ofString "BadCommand", false)] = some false := rfl
  have t1 : List.lookup (Str.ofString "BadCommand") [(Str.ofString "RowError", false), (Str.ofString "BadMap", false), (Str.ofString "BadMachine", true), (Str.ofString "OutOfRange", false), (Str.ofString "TooLong", false), (Str.ofString "BadCommand", false)] = some false := rfl
  have t2 : List.lookup (Str.ofString "BadCommand") [(Str.ofString "RowError", false), (Str.ofString "BadMap", false), (Str.ofString "BadMachine", false), (Str.ofString "OutOfRange", true), (Str.ofString "TooLong", false), (Str.ofString "BadCommand", false)] = some false := rfl
  have t3 : List.lookup (Str.ofString "BadCommand") [(Str.ofString "RowError", false), (Str.ofString "BadMap", false), (Str.ofString "BadMachine", false), (Str.ofString "OutOfRange", false), (Str.ofString "TooLong", true), (Str.ofString "BadCommand", false)] = some false := rfl
  have t4 : List.lookup (Str.ofString "BadCommand") [(Str.ofString "RowError", false), (Str.ofString "BadMap", false), (Str.ofString "BadMachine", false), (Str.ofString "OutOfRange", false), (Str.ofString "TooLong", false), (Str.ofString "BadCommand", true)] = some true := rfl
  simp_arith only [f__law_kinds, F__law_kinds, t0, t1, t2, t3, t4]
def C__law_one_1 : EF := (e2 (fD gEq) (eVar 2) (eVar 1))
def F__law_one : SF := (sSeq (sIf (bOr (bNot (tOf (eIsE 0 [("RowError", true), ("BadMap", true), ("BadMachine", true), ("OutOfRange", true), ("TooLong", true), ("BadCommand", true)]))) (bNot (tOf (eIsE 0 [("RowError", true), ("BadMap", true), ("BadMachine", true), ("OutOfRange", true), ("TooLong", true), ("BadCommand", true)]))))
  (sRet (eC (.bool false)))
  sNil)
  (sRet (e2 (fD gEq) (eCallXS ["RowError", "BadMap", "BadMachine", "OutOfRange", "TooLong", "BadCommand"] PF.f__law_kinds 0 []) (eLc (iR [(eC (.int 5))]) [2] (gN 2) bYes PF.C__law_one_1))))
def f__law_one : FX := callX 3 F__law_one
theorem one_BadMap : f__law_one "BadMap" [.int 0] = some (.ret true (.bool true)) := by
  have t0 : List.lookup (Str.ofString "BadMap") [(Str.ofString "RowError", true), (Str.ofString "BadMap", true), (Str.ofString "BadMachine", true), (Str.ofString "OutOfRange", true), (Str.ofString "TooLong", true), (Str.ofString "BadCommand", true)] = some true := rfl
  have hm : (Str.ofString "BadMap") ∈ [Str.ofString "RowError", Str.ofString "BadMap", Str.ofString "BadMachine", Str.ofString "OutOfRange", Str.ofString "TooLong", Str.ofString "BadCommand"] := by decide +kernel
  have key := lcL_map (t := gN 2) (elt := C__law_one_1) (ρ := [.exn (Str.ofString "BadMap"), .val true (.int 0), .und]) (mk := mkN 0) (r := fun (j : Nat) => .bool (cd ((j : Int) = 0))) (List.range 5) (fun j hj => by
    simp_arith only [C__law_one_1, mkN_eq, Int.zero_add])
  have e5 : (List.range 5).map (fun (j : Nat) => PyData.bool (cd ((j : Int) = 0))) = [.bool true, .bool false, .bool false, .bool false, .bool false] := by
    rw [show List.range 5 = [0, 1, 2, 3, 4] from by decide]
    simp only [List.map_cons, List.map_nil]
    rw [cd_true (show (((0 : Nat) : Int)) = 0 from rfl), cd_false (show ¬ (((1 : Nat) : Int)) = 0 from by decide), cd_false (show ¬ (((2 : Nat) : Int)) = 0 from by decide), cd_false (show ¬ (((3 : Nat) : Int)) = 0 from by decide), cd_false (show ¬ (((4 : Nat) : Int)) = 0 from by decide)]
  rw [e5] at key
  have ge : gEq (.list [.bool true, .bool false, .bool false, .bool false, .bool false]) (.list [.bool true, .bool false, .bool false, .bool false, .bool false]) = some (.bool true) := gEq_lst _ _ _ (by decide +kernel) (by decide +kernel)
  have s5 : small62 5 = true := small62_ok (by omega) (by omega)
  have t5 : (5 : Int).toNat = 5 := rfl
  simp_arith only [f__law_one, F__law_one, t0, kCXS_ok hm, kinds_BadMap, xS_list, s5, rngI_eq, Int.sub_zero, t5, key, ge]
theorem one_BadMachine : f__law_one "BadMachine" [.int 1] = some (.ret true (.bool true)) := by
  have t0 : List.lookup (Str.ofString "BadMachine") [(Str.ofString "RowError", true), (Str.ofString "BadMap", true), (Str.ofString "BadMachine", true), (Str.ofString "OutOfRange", true), (Str.ofString "TooLong", true), (Str.ofString "BadCommand", true)] = some true := rfl
  have hm : (Str.ofString "BadMachine") ∈ [Str.ofString "RowError", Str.ofString "BadMap", Str.ofString "BadMachine", Str.ofString "OutOfRange", Str.ofString "TooLong", Str.ofString "BadCommand"] := by decide +kernel
  have key := lcL_map (t := gN 2) (elt := C__law_one_1) (ρ := [.exn (Str.ofString "BadMachine"), .val true (.int 1), .und]) (mk := mkN 0) (r := fun (j : Nat) => .bool (cd ((j : Int) = 1))) (List.range 5) (fun j hj => by
    simp_arith only [C__law_one_1, mkN_eq, Int.zero_add])
  have e5 : (List.range 5).map (fun (j : Nat) => PyData.bool (cd ((j : Int) = 1))) = [.bool false, .bool true, .bool false, .bool false, .bool false] := by
    rw [show List.range 5 = [0, 1, 2, 3, 4] from by decide]
    simp only [List.map_cons, List.map_nil]
    rw [cd_false (show ¬ (((0 : Nat) : Int)) = 1 from by decide), cd_true (show (((1 : Nat) : Int)) = 1 from rfl), cd_false (show ¬ (((2 : Nat) : Int)) = 1 from by decide), cd_false (show ¬ (((3 : Nat) : Int)) = 1 from by decide), cd_false (show ¬ (((4 : Nat) : Int)) = 1 from by decide)]
  rw [e5] at key
  have ge : gEq (.list [.bool false, .bool true, .bool false, .bool false, .bool false]) (.list [.bool false, .bool true, .bool false, .bool false, .bool false]) = some (.bool true) := gEq_lst _ _ _ (by decide +kernel) (by decide +kernel)
  have s5 : small62 5 = true := small62_ok (by omega) (by omega)
  have t5 : (5 : Int).toNat = 5 := rfl
  simp_arith only [f__law_one, F__law_one, t0, kCXS_ok hm, kinds_BadMachine, xS_list, s5, rngI_eq, Int.sub_zero, t5, key, ge]
theorem one_OutOfRange : f__law_one "OutOfRange" [.int 2] = some (.ret true (.bool true)) := by
  have t0 : List.lookup (Str.ofString "OutOfRange") [(Str.ofString "RowError", true), (Str.ofString "BadMap", true), (Str.ofString "BadMachine", true), (Str.ofString "OutOfRange", true), (Str.ofString "TooLong", true), (Str.ofString "BadCommand", true)] = some true := rfl
  have hm : (Str.ofString "OutOfRange") ∈ [Str.ofString "RowError", Str.ofString "BadMap", Str.ofString "BadMachine", Str.ofString "OutOfRange", Str.ofString "TooLong", Str.ofString "BadCommand"] := by decide +kernel
  have key := lcL_map (t := gN 2) (elt := C__law_one_1) (ρ := [.exn (Str.ofString "OutOfRange"), .val true (.int 2), .und]) (mk := mkN 0) (r := fun (j : Nat) => .bool (cd ((j : Int) = 2))) (List.range 5) (fun j hj => by
    simp_arith only [C__law_one_1, mkN_eq, Int.zero_add])
  have e5 : (List.range 5).map (fun (j : Nat) => PyData.bool (cd ((j : Int) = 2))) = [.bool false, .bool false, .bool true, .bool false, .bool false] := by
    rw [show List.range 5 = [0, 1, 2, 3, 4] from by decide]
    simp only [List.map_cons, List.map_nil]
    rw [cd_false (show ¬ (((0 : Nat) : Int)) = 2 from by decide), cd_false (show ¬ (((1 : Nat) : Int)) = 2 from by decide), cd_true (show (((2 : Nat) : Int)) = 2 from rfl), cd_false (show ¬ (((3 : Nat) : Int)) = 2 from by decide), cd_false (show ¬ (((4 : Nat) : Int)) = 2 from by decide)]
  rw [e5] at key
  have ge : gEq (.list [.bool false, .bool false, .bool true, .bool false, .bool false]) (.list [.bool false, .bool false, .bool true, .bool false, .bool false]) = some (.bool true) := gEq_lst _ _ _ (by decide +kernel) (by decide +kernel)
  have s5 : small62 5 = true := small62_ok (by omega) (by omega)
  have t5 : (5 : Int).toNat = 5 := rfl
  simp_arith only [f__law_one, F__law_one, t0, kCXS_ok hm, kinds_OutOfRange, xS_list, s5, rngI_eq, Int.sub_zero, t5, key, ge]
theorem one_TooLong : f__law_one "TooLong" [.int 3] = some (.ret true (.bool true)) := by
  have t0 : List.lookup (Str.ofString "TooLong") [(Str.ofString "RowError", true), (Str.ofString "BadMap", true), (Str.ofString "BadMachine", true), (Str.ofString "OutOfRange", true), (Str.ofString "TooLong", true), (Str.ofString "BadCommand", true)] = some true := rfl
  have hm : (Str.ofString "TooLong") ∈ [Str.ofString "RowError", Str.ofString "BadMap", Str.ofString "BadMachine", Str.ofString "OutOfRange", Str.ofString "TooLong", Str.ofString "BadCommand"] := by decide +kernel
  have key := lcL_map (t := gN 2) (elt := C__law_one_1) (ρ := [.exn (Str.ofString "TooLong"), .val true (.int 3), .und]) (mk := mkN 0) (r := fun (j : Nat) => .bool (cd ((j : Int) = 3))) (List.range 5) (fun j hj => by
    simp_arith only [C__law_one_1, mkN_eq, Int.zero_add])
  have e5 : (List.range 5).map (fun (j : Nat) => PyData.bool (cd ((j : Int) = 3))) = [.bool false, .bool false, .bool false, .bool true, .bool false] := by
    rw [show List.range 5 = [0, 1, 2, 3, 4] from by decide]
    simp only [List.map_cons, List.map_nil]
    rw [cd_false (show ¬ (((0 : Nat) : Int)) = 3 from by decide), cd_false (show ¬ (((1 : Nat) : Int)) = 3 from by decide), cd_false (show ¬ (((2 : Nat) : Int)) = 3 from by decide), cd_true (show (((3 : Nat) : Int)) = 3 from rfl), cd_false (show ¬ (((4 : Nat) : Int)) = 3 from by decide)]
  rw [e5] at key
  have ge : gEq (.list [.bool false, .bool false, .bool false, .bool true, .bool false]) (.list [.bool false, .bool false, .bool false, .bool true, .bool false]) = some (.bool true) := gEq_lst _ _ _ (by decide +kernel) (by decide +kernel)
  have s5 : small62 5 = true := small62_ok (by omega) (by omega)
  have t5 : (5 : Int).toNat = 5 := rfl
  simp_arith only [f__law_one, F__law_one, t0, kCXS_ok hm, kinds_TooLong, xS_list, s5, rngI_eq, Int.sub_zero, t5, key, ge]
theorem one_BadCommand : f__law_one "BadCommand" [.int 4] = some (.ret true (.bool true)) := by
  have t0 : List.lookup (Str.ofString "BadCommand") [(Str.ofString "RowError", true), (Str.ofString "BadMap", true), (Str.ofString "BadMachine", true), (Str.ofString "OutOfRange", true), (Str.ofString "TooLong", true), (Str.ofString "BadCommand", true)] = some true := rfl
  have hm : (Str.ofString "BadCommand") ∈ [Str.ofString "RowError", Str.ofString "BadMap", Str.ofString "BadMachine", Str.ofString "OutOfRange", Str.ofString "TooLong", Str.ofString "BadCommand"] := by decide +kernel
  have key := lcL_map (t := gN 2) (elt := C__law_one_1) (ρ := [.exn (Str.ofString "BadCommand"), .val true (.int 4), .und]) (mk := mkN 0) (r := fun (j : Nat) => .bool (cd ((j : Int) = 4))) (List.range 5) (fun j hj => by
    simp_arith only [C__law_one_1, mkN_eq, Int.zero_add])
  have e5 : (List.range 5).map (fun (j : Nat) => PyData.bool (cd ((j : Int) = 4))) = [.bool false, .bool false, .bool false, .bool false, .bool true] := by
    rw [show List.range 5 = [0, 1, 2, 3, 4] from by decide]
    simp only [List.map_cons, List.map_nil]
    rw [cd_false (show ¬ (((0 : Nat) : Int)) = 4 from by decide), cd_false (show ¬ (((1 : Nat) : Int)) = 4 from by decide), cd_false (show ¬ (((2 : Nat) : Int)) = 4 from by decide), cd_false (show ¬ (((3 : Nat) : Int)) = 4 from by decide), cd_true (show (((4 : Nat) : Int)) = 4 from rfl)]
  rw [e5] at key
  have ge : gEq (.list [.bool false, .bool false, .bool false, .bool false, .bool true]) (.list [.bool false, .bool false, .bool false, .bool false, .bool true]) = some (.bool true) := gEq_lst _ _ _ (by decide +kernel) (by decide +kernel)
  have s5 : small62 5 = true := small62_ok (by omega) (by omega)
  have t5 : (5 : Int).toNat = 5 := rfl
  simp_arith only [f__law_one, F__law_one, t0, kCXS_ok hm, kinds_BadCommand, xS_list, s5, rngI_eq, Int.sub_zero, t5, key, ge]
end
end PF
namespace PF
open PySem PySem.Spec PyProof.Rows L2 PL
noncomputable section
abbrev LS17 : List (Str × Int) := [("reach", 0), ("finite", 0), ("reverse", 0), ("sums", 1), ("image", 1), ("after", 2), ("power", 1)]
theorem sp_len17 : (Str.ofString " ").length ≠ 0 := by decide +kernel
/-- a number below a thousand, behind an a -/
def aN (d : Nat) : Str := Str.ofString "a" ++ (toString (d : Int) : String)
theorem aN_facts : ∀ d ∈ List.range 1000, Txt.split (aN d) " " = [aN d] ∧ (aN d).length ≤ 10 ∧ 0 < (aN d).length ∧ List.lookup (aN d) LS17 = none ∧ (Str.ofString (toString (d : Int))).length ≤ 10 := by decide +kernel
end
end PF
namespace PF
open PySem PySem.Spec PyProof.Rows L2 PL
noncomputable section
def F_diamond_table_k17 : SF := (sSeq (sSet 1 (eMake 1 PF.f_PairGraph____init__ [(eVar 0)]))
  sStop)
def f_diamond_table_k17 : FN := callF 8 F_diamond_table_k17
theorem diamond_no17 {o : Int} {T : List PyData} : f_diamond_table_k17 [.tuple [.int 2, .int o, .int 9, .list T]] = some (.exc "TooLong") := by
  have h0 := pair_init (s := 2) (w := 9) (o := o) (T := T) (by omega) (by omega) (by omega) (by omega)
  rw [if_no (by decide)] at h0
  have h : f_PairGraph____init__ [.tuple [.int 2, .int o, .int 9, .list T]] = some (.exc "TooLong") := h0
  simp_arith only [f_diamond_table_k17, F_diamond_table_k17, h]
def F_decide_finite_k17 : SF := (sSeq (sSetZ 1 (eCall PF.f_diamond_table_k17 [(eVar 0)]))
  sStop)
def f_decide_finite_k17 : FN := callF 4 F_decide_finite_k17
theorem finite_no17 {o : Int} {T : List PyData} : f_decide_finite_k17 [.tuple [.int 2, .int o, .int 9, .list T]] = some (.exc "TooLong") := by
  simp_arith only [f_decide_finite_k17, F_decide_finite_k17, diamond_no17]
def C_Desk__ask_k17_1 : EF := (e2 (fD gGt) (eCB (fD1 gLen) [(eVar 3)]) (eC (.int 0)))
def F_Desk__ask_k17 : SF := (sSeq (sSetZ 2 (eSplit (eVar 1) (eC (.str " "))))
  (sSeq (sExpr (eCall PF.f_require [(eCB (fD1 gAll) [(eLc (iL (eVar 2)) [3] (gN 3) bYes PF.C_Desk__ask_k17_1)]), (eC (.str "a word is empty"))]))
  (sSeq (sSetZ 3 (e2 fIx (eVar 2) (eC (.int 0))))
  (sSeq (sExpr (eCall PF.f_require [(eKIn false [("reach", 0), ("finite", 0), ("reverse", 0), ("sums", 1), ("image", 1), ("after", 2), ("power", 1)] (eVar 3)), (eC (.str "the command is unknown"))]))
  sStop))))
def f_Desk__ask_k17 : FM := callM 7 4 F_Desk__ask_k17
theorem ask_word {fs : Fds} {a : Str} (hs : Txt.split a " " = [a]) (ha : a.length ≤ 1000) (h0 : 0 < a.length) (hl : List.lookup a LS17 = none) : f_Desk__ask_k17 fs [.str a] = some (.exc "BadCommand") := by
  have gl : gLen (.str a) = some (.int (a.length : Int)) := if_pos (by omega)
  have g0 : (0 : Int) < (a.length : Int) := by omega
  have ha2 : a.length + 2 ≤ 16777216 := by omega
  have key := lcL_map (t := gN 3) (elt := C_Desk__ask_k17_1) (ρ := [.cel (.obj false 4 fs), .val true (.str a), .val true (.list [.str a]), .und, .und, .und, .und]) (mk := fun z => Sl.val true (.str z)) (r := fun _ => .bool true) [a] (fun z hz => by
    rw [List.mem_singleton] at hz
    subst hz
    simp_arith only [C_Desk__ask_k17_1, gl, g0])
  simp only [List.map_cons, List.map_nil] at key
  simp_arith only [f_Desk__ask_k17, F_Desk__ask_k17, kSp_ok sp_len17 ha2, hs, key, show gAll (.list [.bool true]) = some (.bool true) from rfl, require_yes, atI_0, hl, Option.isSome_none, Bool.false_xor, require_no]
theorem fAdd_str {a b : Str} (h : a.length + b.length ≤ 16777216) : fAdd (.val true (.str a)) (.val true (.str b)) = some (.val true (.str (a ++ b))) := by
  have g : gAddS (.str a) (.str b) = some (.str (a ++ b)) := if_pos h
  show fD gAddS (.val true (.str a)) (.val true (.str b)) = _
  unfold fD
  simp only [dat, g]
  rfl
theorem log_1000 {d : Nat} (h : d < 1000) : ((d : Int)).natAbs.log2 < 1920 := by
  rw [Int.natAbs_natCast]
  rcases Nat.eq_zero_or_pos d with e | e
  · rw [e]; decide
  · exact (Nat.log2_lt (by omega)).mpr (Nat.lt_of_lt_of_le h (Nat.le_trans (show 1000 ≤ 2 ^ 10 by decide) (Nat.pow_le_pow_right (by omega) (by omega))))
def C__law_refusal_k17_1 : EF := (e2 (fD gAnd) (eCB (fD1 gInt) [(eVar 2)]) (eC (.int 1)))
def K__law_refusal_k17_2 : SF := (sSeq (sIf (bOf (e2 (fD gEq) (eVar 1) (eC (.int 4))))
  (sExpr (eMethT 4 "ask" PF.f_Desk__ask_k17 (eMake 4 PF.f_Desk____init__ [(eTup [(eC (.int 2)), (eC (.int 0)), (eC (.int 1)), (eList [(eC (.int 0)), (eC (.int 1))])])]) [(e2 fAdd (eC (.str "a")) (eCB (fD1 gStrI) [(e2 fIx (eVar 0) (eC (.int 0)))]))]))
  sNil)
  (sIf (bOf (e2 (fD gEq) (eVar 1) (eC (.int 5))))
  (sExpr (eMake 4 PF.f_Desk____init__ [(eTup [(eC (.int 2)), (e2 fAdd (eC (.int 101)) (e2 fIx (eVar 0) (eC (.int 0)))), (eC (.int 1)), (eList [(eC (.int 0)), (eC (.int 1))])])]))
  sNil))
def K__law_refusal_k17_3 : SF := (sSeq (sIf (bOf (e2 (fD gEq) (eVar 1) (eC (.int 3))))
  (sExpr (eCall PF.f_decide_finite_k17 [(eTup [(eC (.int 2)), (eC (.int 0)), (eC (.int 9)), (eLc (iR [(eC (.int 512))]) [2] (gN 2) bYes PF.C__law_refusal_k17_1)])]))
  sNil)
  PF.K__law_refusal_k17_2)
def K__law_refusal_k17_4 : SF := (sSeq (sIf (bOf (e2 (fD gEq) (eVar 1) (eC (.int 2))))
  (sExpr (eCall PF.f_shift_map [(eC (.int 2)), (e2 fAdd (eC (.int 101)) (e2 fIx (eVar 0) (eC (.int 0))))]))
  sNil)
  PF.K__law_refusal_k17_3)
def K__law_refusal_k17_5 : SF := (sSeq (sIf (bOf (e2 (fD gEq) (eVar 1) (eC (.int 1))))
  (sExpr (eCall PF.f_check_machine [(eTup [(eC (.int 2)), (e2 (fD gSub) (e1 fNeg (eC (.int 1))) (e2 fIx (eVar 0) (eC (.int 0)))), (eList [])])]))
  sNil)
  PF.K__law_refusal_k17_4)
def B__law_refusal_k17_6 : SF := (sSeq (sIf (bOf (e2 (fD gEq) (eVar 1) (eC (.int 0))))
  (sExpr (eCall PF.f_check_map [(eTup [(e2 fAdd (eC (.int 5)) (e2 fIx (eVar 0) (eC (.int 0)))), (eC (.int 0)), (eC (.int 1)), (eList [(eC (.int 0))])])]))
  sNil)
  PF.K__law_refusal_k17_5)
def H__law_refusal_k17_7 : SF := (sRet (eCallXS ["RowError", "BadMap", "BadMachine", "OutOfRange", "TooLong", "BadCommand"] PF.f__law_one 3 [(e2 fIx (eList [(eC (.int 0)), (eC (.int 1)), (eC (.int 2)), (eC (.int 3)), (eC (.int 4)), (eC (.int 0))]) (eVar 1))]))
def F__law_refusal_k17 : SF := (sSeq (sTryAs PF.B__law_refusal_k17_6 [("RowError", true), ("BadMap", true), ("BadMachine", true), ("OutOfRange", true), ("TooLong", true), ("BadCommand", true)] 3 PF.H__law_refusal_k17_7)
  (sRet (eC (.bool false))))
def f__law_refusal_k17 : FN := callF 4 F__law_refusal_k17
theorem xS_b (b : Bool) : xS (some (.ret true (.bool b))) = some (.ok (.val true (.bool b))) := rfl
theorem refusal_0 (d : Nat) (hd : d < 1000) : f__law_refusal_k17 [.list [.int d], .int 0] = some (.ret true (.bool true)) := by
  have t0 : List.lookup (Str.ofString "BadMap") [(Str.ofString "RowError", true), (Str.ofString "BadMap", true), (Str.ofString "BadMachine", true), (Str.ofString "OutOfRange", true), (Str.ofString "TooLong", true), (Str.ofString "BadCommand", true)] = some true := rfl
  have hm : (Str.ofString "BadMap") ∈ [Str.ofString "RowError", Str.ofString "BadMap", Str.ofString "BadMachine", Str.ofString "OutOfRange", Str.ofString "TooLong", Str.ofString "BadCommand"] := by decide +kernel
  have q := check_map_ok (5 + (d : Int)) 0 1 [0] (by decide)
  rw [if_no (fun z => absurd z.1.2 (by omega))] at q
  have q' : f_check_map [.tuple [.int (5 + (d : Int)), .int 0, .int 1, .list [.int 0]]] = some (.exc "BadMap") := q
  simp_arith only [f__law_refusal_k17, F__law_refusal_k17, B__law_refusal_k17_6, K__law_refusal_k17_5, K__law_refusal_k17_4, K__law_refusal_k17_3, K__law_refusal_k17_2, H__law_refusal_k17_7, atI_0, atI_1, atI_2, atI_3, atI_4, atI_5, q', t0, kCXS_ok hm, kXs2_some, one_BadMap, xS_b]
theorem refusal_1 (d : Nat) (hd : d < 1000) : f__law_refusal_k17 [.list [.int d], .int 1] = some (.ret true (.bool true)) := by
  have t0 : List.lookup (Str.ofString "BadMachine") [(Str.ofString "RowError", true), (Str.ofString "BadMap", true), (Str.ofString "BadMachine", true), (Str.ofString "OutOfRange", true), (Str.ofString "TooLong", true), (Str.ofString "BadCommand", true)] = some true := rfl
  have hm : (Str.ofString "BadMachine") ∈ [Str.ofString "RowError", Str.ofString "BadMap", Str.ofString "BadMachine", Str.ofString "OutOfRange", Str.ofString "TooLong", Str.ofString "BadCommand"] := by decide +kernel
  have q := check_machine_ok 2 (-1 - (d : Int)) [] (by decide)
  rw [if_no (fun z => absurd z.2.1.1 (by omega))] at q
  have q' : f_check_machine [.tuple [.int 2, .int (-1 - (d : Int)), .list []]] = some (.exc "BadMachine") := q
  simp_arith only [f__law_refusal_k17, F__law_refusal_k17, B__law_refusal_k17_6, K__law_refusal_k17_5, K__law_refusal_k17_4, K__law_refusal_k17_3, K__law_refusal_k17_2, H__law_refusal_k17_7, atI_0, atI_1, atI_2, atI_3, atI_4, atI_5, q', t0, kCXS_ok hm, kXs2_some, one_BadMachine, xS_b]
theorem refusal_2 (d : Nat) (hd : d < 1000) : f__law_refusal_k17 [.list [.int d], .int 2] = some (.ret true (.bool true)) := by
  have t0 : List.lookup (Str.ofString "OutOfRange") [(Str.ofString "RowError", true), (Str.ofString "BadMap", true), (Str.ofString "BadMachine", true), (Str.ofString "OutOfRange", true), (Str.ofString "TooLong", true), (Str.ofString "BadCommand", true)] = some true := rfl
  have hm : (Str.ofString "OutOfRange") ∈ [Str.ofString "RowError", Str.ofString "BadMap", Str.ofString "BadMachine", Str.ofString "OutOfRange", Str.ofString "TooLong", Str.ofString "BadCommand"] := by decide +kernel
  have q' := shift_map_no (S := 2) (p := 101 + (d : Int)) (by omega)
  simp_arith only [f__law_refusal_k17, F__law_refusal_k17, B__law_refusal_k17_6, K__law_refusal_k17_5, K__law_refusal_k17_4, K__law_refusal_k17_3, K__law_refusal_k17_2, H__law_refusal_k17_7, atI_0, atI_1, atI_2, atI_3, atI_4, atI_5, q', t0, kCXS_ok hm, kXs2_some, one_OutOfRange, xS_b]
theorem refusal_3 (d : Nat) (hd : d < 1000) : f__law_refusal_k17 [.list [.int d], .int 3] = some (.ret true (.bool true)) := by
  have t0 : List.lookup (Str.ofString "TooLong") [(Str.ofString "RowError", true), (Str.ofString "BadMap", true), (Str.ofString "BadMachine", true), (Str.ofString "OutOfRange", true), (Str.ofString "TooLong", true), (Str.ofString "BadCommand", true)] = some true := rfl
  have hm : (Str.ofString "TooLong") ∈ [Str.ofString "RowError", Str.ofString "BadMap", Str.ofString "BadMachine", Str.ofString "OutOfRange", Str.ofString "TooLong", Str.ofString "BadCommand"] := by decide +kernel
  have ga : ∀ j : Nat, gAnd (.int (j : Int)) (.int 1) = some (.int (Builtin.bitAnd (j : Int) 1)) := fun _ => rfl
  have key := lcL_map (t := gN 2) (elt := C__law_refusal_k17_1) (ρ := [.val false (.list [.int d]), .val true (.int 3), .und, .und]) (mk := mkN 0) (r := fun (j : Nat) => .int (Builtin.bitAnd (j : Int) 1)) (List.range 512) (fun j hj => by
    simp_arith only [C__law_refusal_k17_1, mkN_eq, Int.zero_add, ga])
  have z5 : ((List.range 512).map fun (j : Nat) => PyData.int (Builtin.bitAnd (j : Int) 1)).length ≤ 16777216 := by rw [List.length_map, List.length_range]; omega
  have s5 : small62 512 = true := small62_ok (by omega) (by omega)
  have t5 : (512 : Int).toNat = 512 := rfl
  have q' := @finite_no17
  simp_arith only [f__law_refusal_k17, F__law_refusal_k17, B__law_refusal_k17_6, K__law_refusal_k17_5, K__law_refusal_k17_4, K__law_refusal_k17_3, K__law_refusal_k17_2, H__law_refusal_k17_7, atI_0, atI_1, atI_2, atI_3, atI_4, atI_5, q', key, List.length_range, s5, t5, rngI_eq, Int.sub_zero, t0, kCXS_ok hm, kXs2_some, one_TooLong, xS_b]
theorem refusal_4 (d : Nat) (hd : d < 1000) : f__law_refusal_k17 [.list [.int d], .int 4] = some (.ret true (.bool true)) := by
  have t0 : List.lookup (Str.ofString "BadCommand") [(Str.ofString "RowError", true), (Str.ofString "BadMap", true), (Str.ofString "BadMachine", true), (Str.ofString "OutOfRange", true), (Str.ofString "TooLong", true), (Str.ofString "BadCommand", true)] = some true := rfl
  have hm : (Str.ofString "BadCommand") ∈ [Str.ofString "RowError", Str.ofString "BadMap", Str.ofString "BadMachine", Str.ofString "OutOfRange", Str.ofString "TooLong", Str.ofString "BadCommand"] := by decide +kernel
  obtain ⟨f1, f2, f3, f4, f5⟩ := aN_facts d (List.mem_range.mpr hd)
  have di : f_Desk____init__ [.tuple [.int 2, .int 0, .int 1, .list [.int 0, .int 1]]] = some (.ok [("map", .tuple [.int 2, .int 0, .int 1, .list [.int 0, .int 1]])]) := desk_init (s := 2) (w := 1) (o := 0) (t := [0, 1]) (by unfold VM; decide) (by decide)
  have lg := log_1000 hd
  have fa : fAdd (.val true (.str (Str.ofString "a"))) (.val true (.str (Str.ofString (toString (d : Int))))) = some (.val true (.str (aN d))) := fAdd_str (by rw [show (Str.ofString "a").length = 1 from by decide +kernel]; omega)
  have q' := ask_word (fs := [("map", .tuple [.int 2, .int 0, .int 1, .list [.int 0, .int 1]])]) f1 (by omega) f3 f4
  have k2 : List.lookup (Str.ofString "ask") ([(Str.ofString "map", .tuple [.int 2, .int 0, .int 1, .list [.int 0, .int 1]])] : Fds) = none := rfl
  simp_arith only [f__law_refusal_k17, F__law_refusal_k17, B__law_refusal_k17_6, K__law_refusal_k17_5, K__law_refusal_k17_4, K__law_refusal_k17_3, K__law_refusal_k17_2, H__law_refusal_k17_7, atI_0, atI_1, atI_2, atI_3, atI_4, atI_5, q', di, kMt_ok k2, lg, fa, t0, kCXS_ok hm, kXs2_some, one_BadCommand, xS_b]
theorem refusal_5 (d : Nat) (hd : d < 1000) : f__law_refusal_k17 [.list [.int d], .int 5] = some (.ret true (.bool true)) := by
  have t0 : List.lookup (Str.ofString "BadMap") [(Str.ofString "RowError", true), (Str.ofString "BadMap", true), (Str.ofString "BadMachine", true), (Str.ofString "OutOfRange", true), (Str.ofString "TooLong", true), (Str.ofString "BadCommand", true)] = some true := rfl
  have hm : (Str.ofString "BadMap") ∈ [Str.ofString "RowError", Str.ofString "BadMap", Str.ofString "BadMachine", Str.ofString "OutOfRange", Str.ofString "TooLong", Str.ofString "BadCommand"] := by decide +kernel
  have q := desk_init_no (S := 2) (O := 101 + (d : Int)) (W := 1) (T := [0, 1]) (fun z => absurd z.2.1.2 (by omega)) (by decide)
  have q' : f_Desk____init__ [.tuple [.int 2, .int (101 + (d : Int)), .int 1, .list [.int 0, .int 1]]] = some (.exc "BadMap") := q
  simp_arith only [f__law_refusal_k17, F__law_refusal_k17, B__law_refusal_k17_6, K__law_refusal_k17_5, K__law_refusal_k17_4, K__law_refusal_k17_3, K__law_refusal_k17_2, H__law_refusal_k17_7, atI_0, atI_1, atI_2, atI_3, atI_4, atI_5, q', t0, kCXS_ok hm, kXs2_some, one_BadMap, xS_b]
theorem gN_cel' (i : Nat) (k : CK) (ρ : Ev) : gN i (.cel k) ρ = some (ρ.set i (.cel k)) := rfl
def B_law_k17_1 : SF := (sIf (bOr (bNot (tOf (eCallXV [(15, "RowError"), (10, "BadMap"), (11, "BadMachine"), (12, "OutOfRange"), (13, "TooLong"), (14, "BadCommand")] PF.f__law_one (eXIx 3 (eVar 5)) [(eVar 5)]))) (bOf (e2 (fD gNe) (eStrX [15, 10, 11, 12, 13, 14] (eXIx 3 (eVar 5))) (eVar 2))))
  (sRet (eC (.bool false)))
  sNil)
def C_law_k17_2 : EF := (e2 (fD gNe) (eStrX [15, 10, 11, 12, 13, 14] (eVX 8)) (eVar 6))
def B_law_k17_3 : SF := (sSeq (sSet 7 (eLstX [10, 11, 12, 13, 14, 15] (eVar 6)))
  (sIf (tOf (eCB (fD1 gAny) [(eLc (iX 7) [8] (gN 8) bYes PF.C_law_k17_2)]))
  (sRet (eC (.bool false)))
  sNil))
def C_law_k17_4 : EF := (eCall PF.f__law_refusal_k17 [(eVar 1), (eVar 9)])
def F_law_k17 : SF := (sSeq (sSetZ 1 (eCall PF.f__law_draws [(eCall PF.f__law_cell [(eVar 0), (eC (.int 0))]), (eList [(eC (.int 1000))])]))
  (sSeq (sSetZ 2 (e2 fAdd (eC (.str "a")) (eCB (fD1 gStrI) [(e2 fIx (eVar 1) (eC (.int 0)))])))
  (sSeq (sSet 3 (eLstX [10, 11, 12, 13, 14] (eVar 2)))
  (sSeq (sSet 4 (eMkX 15 (eVar 2)))
  (sSeq (sIf (bOr (bNot (tOf (eIsV [(15, "RowError"), (10, "BadMap"), (11, "BadMachine"), (12, "OutOfRange"), (13, "TooLong"), (14, "BadCommand")] [("RowError", true), ("BadMap", true), ("BadMachine", true), ("OutOfRange", true), ("TooLong", true), ("BadCommand", true)] (eVX 4)))) (bOr (tOf (eCB (fD1 gAny) [(eCallXV [(15, "RowError"), (10, "BadMap"), (11, "BadMachine"), (12, "OutOfRange"), (13, "TooLong"), (14, "BadCommand")] PF.f__law_kinds (eVX 4) [])])) (bOf (e2 (fD gNe) (eStrX [15, 10, 11, 12, 13, 14] (eVX 4)) (eVar 2)))))
  (sRet (eC (.bool false)))
  sNil)
  (sSeq (sForD [5] (iR [(eC (.int 5))]) (gN 5)
  PF.B_law_k17_1)
  (sSeq (sForD [6, 7] (iL (eList [(eC (.str "")), (eC (.str " a  b ")), (e2 fMulT (eC (.str "a")) (e2 fAdd (eC (.int 1)) (e2 fIx (eVar 1) (eC (.int 0))))), (eC (.str "none: 0"))])) (gN 6)
  PF.B_law_k17_3)
  (sRet (eCB (fD1 gAll) [(eLc (iR [(eC (.int 6))]) [9] (gN 9) bYes PF.C_law_k17_4)])))))))))
def f_law_k17 : FN := callF 10 F_law_k17
theorem k17_made (ns : List Int) (d : Nat) (t : Str) (j : Nat) (hj : j ∈ [0, 1, 2, 3, 4]) : turn [5] (gN 5) B_law_k17_1 (mkN 0 j) [.val false (.list (ns.map .int)), .val true (.list [.int (d : Int)]), .val true (.str t), .cel (.exl [10, 11, 12, 13, 14] t), .cel (.exv 15 t), .und, .und, .und, .und, .und] = some (.nx [.val false (.list (ns.map .int)), .val true (.list [.int (d : Int)]), .val true (.str t), .cel (.exl [10, 11, 12, 13, 14] t), .cel (.exv 15 t), .und, .und, .und, .und, .und]) := by
  have n0 : List.lookup 10 ([(15, Str.ofString "RowError"), (10, Str.ofString "BadMap"), (11, Str.ofString "BadMachine"), (12, Str.ofString "OutOfRange"), (13, Str.ofString "TooLong"), (14, Str.ofString "BadCommand")] : TabN) = some (Str.ofString "BadMap") := rfl
  have n1 : List.lookup 11 ([(15, Str.ofString "RowError"), (10, Str.ofString "BadMap"), (11, Str.ofString "BadMachine"), (12, Str.ofString "OutOfRange"), (13, Str.ofString "TooLong"), (14, Str.ofString "BadCommand")] : TabN) = some (Str.ofString "BadMachine") := rfl
  have n2 : List.lookup 12 ([(15, Str.ofString "RowError"), (10, Str.ofString "BadMap"), (11, Str.ofString "BadMachine"), (12, Str.ofString "OutOfRange"), (13, Str.ofString "TooLong"), (14, Str.ofString "BadCommand")] : TabN) = some (Str.ofString "OutOfRange") := rfl
  have n3 : List.lookup 13 ([(15, Str.ofString "RowError"), (10, Str.ofString "BadMap"), (11, Str.ofString "BadMachine"), (12, Str.ofString "OutOfRange"), (13, Str.ofString "TooLong"), (14, Str.ofString "BadCommand")] : TabN) = some (Str.ofString "TooLong") := rfl
  have n4 : List.lookup 14 ([(15, Str.ofString "RowError"), (10, Str.ofString "BadMap"), (11, Str.ofString "BadMachine"), (12, Str.ofString "OutOfRange"), (13, Str.ofString "TooLong"), (14, Str.ofString "BadCommand")] : TabN) = some (Str.ofString "BadCommand") := rfl
  have n5 : List.lookup 15 ([(15, Str.ofString "RowError"), (10, Str.ofString "BadMap"), (11, Str.ofString "BadMachine"), (12, Str.ofString "OutOfRange"), (13, Str.ofString "TooLong"), (14, Str.ofString "BadCommand")] : TabN) = some (Str.ofString "RowError") := rfl
  have m10 : 10 ∈ [15, 10, 11, 12, 13, 14] := by decide
  have m11 : 11 ∈ [15, 10, 11, 12, 13, 14] := by decide
  have m12 : 12 ∈ [15, 10, 11, 12, 13, 14] := by decide
  have m13 : 13 ∈ [15, 10, 11, 12, 13, 14] := by decide
  have m14 : 14 ∈ [15, 10, 11, 12, 13, 14] := by decide
  have m15 : 15 ∈ [15, 10, 11, 12, 13, 14] := by decide
  have i2 : ((2 : Nat) : Int) = 2 := rfl
  have i3 : ((3 : Nat) : Int) = 3 := rfl
  have i4 : ((4 : Nat) : Int) = 4 := rfl
  simp only [List.mem_cons, List.not_mem_nil, or_false] at hj
  rcases hj with rfl | rfl | rfl | rfl | rfl
  · simp_arith only [B_law_k17_1, mkN_eq, Int.zero_add, atI_0, n0, one_BadMap, kSX_ok m10, gNe_str]
  · simp_arith only [B_law_k17_1, mkN_eq, Int.zero_add, atI_1, n1, one_BadMachine, kSX_ok m11, gNe_str]
  · simp_arith only [B_law_k17_1, mkN_eq, Int.zero_add, i2, atI_2, n2, one_OutOfRange, kSX_ok m12, gNe_str]
  · simp_arith only [B_law_k17_1, mkN_eq, Int.zero_add, i3, atI_3, n3, one_TooLong, kSX_ok m13, gNe_str]
  · simp_arith only [B_law_k17_1, mkN_eq, Int.zero_add, i4, atI_4, n4, one_BadCommand, kSX_ok m14, gNe_str]
theorem k17_other (ns : List Int) (d : Nat) (t m : Str) : turn [6, 7] (gN 6) B_law_k17_3 (.val true (.str m)) [.val false (.list (ns.map .int)), .val true (.list [.int (d : Int)]), .val true (.str t), .cel (.exl [10, 11, 12, 13, 14] t), .cel (.exv 15 t), .und, .und, .und, .und, .und] = some (.nx [.val false (.list (ns.map .int)), .val true (.list [.int (d : Int)]), .val true (.str t), .cel (.exl [10, 11, 12, 13, 14] t), .cel (.exv 15 t), .und, .und, .und, .und, .und]) := by
  have hl : [10, 11, 12, 13, 14, 15].length ≤ 16777216 := by decide
  have key := lcL_map (t := gN 8) (elt := C_law_k17_2) (ρ := [.val false (.list (ns.map .int)), .val true (.list [.int (d : Int)]), .val true (.str t), .cel (.exl [10, 11, 12, 13, 14] t), .cel (.exv 15 t), .und, .val true (.str m), .cel (.exl [10, 11, 12, 13, 14, 15] m), .und, .und]) (mk := fun c => Sl.cel (.exv c m)) (r := fun _ => .bool false) [10, 11, 12, 13, 14, 15] (fun c hc => by
    have hc' : c ∈ [15, 10, 11, 12, 13, 14] := by
      simp only [List.mem_cons, List.not_mem_nil, or_false] at hc ⊢
      omega
    simp_arith only [C_law_k17_2, gN_cel', kSX_ok hc', gNe_str])
  have ga : gAny (.list [.bool false, .bool false, .bool false, .bool false, .bool false, .bool false]) = some (.bool false) := rfl
  simp only [List.map_cons, List.map_nil] at key
  simp_arith only [B_law_k17_3, kLX_ok hl, key, ga]
theorem plain_law_k17 (ns : List Int) (hl : ns.length ≤ 63) : f_law_k17 [.list (ns.map .int)] = some (.ret true (.bool true)) := by
  obtain ⟨i, hi⟩ := cell_ok ns 0
  have hi' : f__law_cell [.list (ns.map .int), .int 0] = some (.ret true (.int i)) := hi
  obtain ⟨rs, d1, d2⟩ := draws_ok i [1000] (by decide) (by decide)
  obtain ⟨q0, rfl⟩ : ∃ q0, rs = [q0] := by
    have := d2.length
    match rs, this with
    | [a], _ => exact ⟨a, rfl⟩
  obtain ⟨x0, x1, -⟩ := d2
  simp only [List.map_cons, List.map_nil] at d1
  obtain ⟨d, rfl⟩ := Int.eq_ofNat_of_zero_le x0
  have hd : d < 1000 := by omega
  have n0 : List.lookup 10 ([(15, Str.ofString "RowError"), (10, Str.ofString "BadMap"), (11, Str.ofString "BadMachine"), (12, Str.ofString "OutOfRange"), (13, Str.ofString "TooLong"), (14, Str.ofString "BadCommand")] : TabN) = some (Str.ofString "BadMap") := rfl
  have n1 : List.lookup 11 ([(15, Str.ofString "RowError"), (10, Str.ofString "BadMap"), (11, Str.ofString "BadMachine"), (12, Str.ofString "OutOfRange"), (13, Str.ofString "TooLong"), (14, Str.ofString "BadCommand")] : TabN) = some (Str.ofString "BadMachine") := rfl
  have n2 : List.lookup 12 ([(15, Str.ofString "RowError"), (10, Str.ofString "BadMap"), (11, Str.ofString "BadMachine"), (12, Str.ofString "OutOfRange"), (13, Str.ofString "TooLong"), (14, Str.ofString "BadCommand")] : TabN) = some (Str.ofString "OutOfRange") := rfl
  have n3 : List.lookup 13 ([(15, Str.ofString "RowError"), (10, Str.ofString "BadMap"), (11, Str.ofString "BadMachine"), (12, Str.ofString "OutOfRange"), (13, Str.ofString "TooLong"), (14, Str.ofString "BadCommand")] : TabN) = some (Str.ofString "TooLong") := rfl
  have n4 : List.lookup 14 ([(15, Str.ofString "RowError"), (10, Str.ofString "BadMap"), (11, Str.ofString "BadMachine"), (12, Str.ofString "OutOfRange"), (13, Str.ofString "TooLong"), (14, Str.ofString "BadCommand")] : TabN) = some (Str.ofString "BadCommand") := rfl
  have n5 : List.lookup 15 ([(15, Str.ofString "RowError"), (10, Str.ofString "BadMap"), (11, Str.ofString "BadMachine"), (12, Str.ofString "OutOfRange"), (13, Str.ofString "TooLong"), (14, Str.ofString "BadCommand")] : TabN) = some (Str.ofString "RowError") := rfl
  have m10 : 10 ∈ [15, 10, 11, 12, 13, 14] := by decide
  have m11 : 11 ∈ [15, 10, 11, 12, 13, 14] := by decide
  have m12 : 12 ∈ [15, 10, 11, 12, 13, 14] := by decide
  have m13 : 13 ∈ [15, 10, 11, 12, 13, 14] := by decide
  have m14 : 14 ∈ [15, 10, 11, 12, 13, 14] := by decide
  have m15 : 15 ∈ [15, 10, 11, 12, 13, 14] := by decide
  obtain ⟨f1, f2, f3, f4, f5⟩ := aN_facts d (List.mem_range.mpr hd)
  have lg := log_1000 hd
  have fa : fAdd (.val true (.str (Str.ofString "a"))) (.val true (.str (Str.ofString (toString (d : Int))))) = some (.val true (.str (aN d))) := fAdd_str (by rw [show (Str.ofString "a").length = 1 from by decide +kernel]; omega)
  have hl5 : [10, 11, 12, 13, 14].length ≤ 16777216 := by decide
  have tb : List.lookup (Str.ofString "RowError") [(Str.ofString "RowError", true), (Str.ofString "BadMap", true), (Str.ofString "BadMachine", true), (Str.ofString "OutOfRange", true), (Str.ofString "TooLong", true), (Str.ofString "BadCommand", true)] = some true := rfl
  have iv : kIsV [(15, Str.ofString "RowError"), (10, Str.ofString "BadMap"), (11, Str.ofString "BadMachine"), (12, Str.ofString "OutOfRange"), (13, Str.ofString "TooLong"), (14, Str.ofString "BadCommand")] [(Str.ofString "RowError", true), (Str.ofString "BadMap", true), (Str.ofString "BadMachine", true), (Str.ofString "OutOfRange", true), (Str.ofString "TooLong", true), (Str.ofString "BadCommand", true)] 15 = some (.ok (.val true (.bool true))) := rfl
  have ga : gAny (.list [.bool false, .bool false, .bool false, .bool false, .bool false]) = some (.bool false) := rfl
  have s5 : small62 5 = true := small62_ok (by omega) (by omega)
  have t5 : (5 : Int).toNat = 5 := rfl
  have s6 : small62 6 = true := small62_ok (by omega) (by omega)
  have t6 : (6 : Int).toNat = 6 := rfl
  generalize aN d = t at fa f1 f2 f3 f4
  have r5 : List.range 5 = [0, 1, 2, 3, 4] := by decide
  have g1 := forT_all (tn := turn [5] (gN 5) B_law_k17_1) (l := [0, 1, 2, 3, 4].map (mkN 0)) (ρ := [.val false (.list (ns.map .int)), .val true (.list [.int (d : Int)]), .val true (.str t), .cel (.exl [10, 11, 12, 13, 14] t), .cel (.exv 15 t), .und, .und, .und, .und, .und]) (fun x hx => by
    obtain ⟨j, hj, rfl⟩ := List.mem_map.mp hx
    exact k17_made ns d t j hj)
  rw [← r5] at g1
  have mu : fMulT (.val true (.str (Str.ofString "a"))) (.val true (.int (1 + (d : Int)))) = some (.val true (.str (Txt.mul (Str.ofString "a") (1 + (d : Int))))) := ev_mulT (by omega) (by omega) (by decide +kernel)
  have g2 := forT_all (tn := turn [6, 7] (gN 6) B_law_k17_3) (l := [.val true (.str (Str.ofString "")), .val true (.str (Str.ofString " a  b ")), .val true (.str (Txt.mul (Str.ofString "a") (1 + (d : Int)))), .val true (.str (Str.ofString "none: 0"))]) (ρ := [.val false (.list (ns.map .int)), .val true (.list [.int (d : Int)]), .val true (.str t), .cel (.exl [10, 11, 12, 13, 14] t), .cel (.exv 15 t), .und, .und, .und, .und, .und]) (fun x hx => by
    simp only [List.mem_cons, List.not_mem_nil, or_false] at hx
    rcases hx with rfl | rfl | rfl | rfl <;> exact k17_other ns d t _)
  have j2 : ((2 : Nat) : Int) = 2 := rfl
  have j3 : ((3 : Nat) : Int) = 3 := rfl
  have j4 : ((4 : Nat) : Int) = 4 := rfl
  have j5 : ((5 : Nat) : Int) = 5 := rfl
  have key := lcL_map (t := gN 9) (elt := C_law_k17_4) (ρ := [.val false (.list (ns.map .int)), .val true (.list [.int (d : Int)]), .val true (.str t), .cel (.exl [10, 11, 12, 13, 14] t), .cel (.exv 15 t), .und, .und, .und, .und, .und]) (mk := mkN 0) (r := fun _ => .bool true) [0, 1, 2, 3, 4, 5] (fun j hj => by
    simp only [List.mem_cons, List.not_mem_nil, or_false] at hj
    rcases hj with rfl | rfl | rfl | rfl | rfl | rfl
    · simp_arith only [C_law_k17_4, mkN_eq, Int.zero_add, refusal_0 d hd]
    · simp_arith only [C_law_k17_4, mkN_eq, Int.zero_add, refusal_1 d hd]
    · simp_arith only [C_law_k17_4, mkN_eq, Int.zero_add, j2, refusal_2 d hd]
    · simp_arith only [C_law_k17_4, mkN_eq, Int.zero_add, j3, refusal_3 d hd]
    · simp_arith only [C_law_k17_4, mkN_eq, Int.zero_add, j4, refusal_4 d hd]
    · simp_arith only [C_law_k17_4, mkN_eq, Int.zero_add, j5, refusal_5 d hd])
  have e6 : ([0, 1, 2, 3, 4, 5] : List Nat).map (fun _ => PyData.bool true) = [.bool true, .bool true, .bool true, .bool true, .bool true, .bool true] := rfl
  rw [e6] at key
  have r6 : List.range 6 = [0, 1, 2, 3, 4, 5] := by decide
  rw [← r6] at key
  have gl : gAll (.list [.bool true, .bool true, .bool true, .bool true, .bool true, .bool true]) = some (.bool true) := rfl
  simp_arith only [f_law_k17, F_law_k17, hi', d1, atI_0, lg, fa, kLX_ok hl5, iv, n5, kinds_RowError, ga, kSX_ok m15, gNe_str, s5, t5, s6, t6, rngI_eq, Int.sub_zero, g1, mu, g2, key, gl]
end
end PF
namespace LK17
open PySem PySem.Spec PyProof.Rows L2 PL
def topS (i : Nat) : Stmt := PySem.Challenge.pw_edenrow_k17_classes_of_exceptions.main.body.getD i (.Pass ⟨0, 0, 0, 0⟩)
abbrev s__law_draws : Stmt := topS 83
abbrev N__law_draws : List Str := ["_law_cell_here", "_law_limits", "_law_found", "_law_rest", "_law_state", "_law_free", "_law_limit"]
theorem sc__law_draws : FnScope N__law_draws ["_law_cell_here", "_law_limits"] (defScope s__law_draws) := ⟨rfl, rfl, rfl, by decide +kernel, rfl, by decide +kernel, by decide +kernel⟩
abbrev s__law_cell : Stmt := topS 82
abbrev N__law_cell : List Str := ["_law_script", "_law_k"]
theorem sc__law_cell : FnScope N__law_cell ["_law_script", "_law_k"] (defScope s__law_cell) := ⟨rfl, rfl, rfl, by decide +kernel, rfl, by decide +kernel, by decide +kernel⟩
abbrev s__law_kinds : Stmt := topS 84
abbrev N__law_kinds : List Str := ["_law_e"]
theorem sc__law_kinds : FnScope N__law_kinds ["_law_e"] (defScope s__law_kinds) := ⟨rfl, rfl, rfl, by decide +kernel, rfl, by decide +kernel, by decide +kernel⟩
abbrev s__law_one : Stmt := topS 85
abbrev N__law_one : List Str := ["_law_e", "_law_which", "_law_k"]
theorem sc__law_one : FnScope N__law_one ["_law_e", "_law_which"] (defScope s__law_one) := ⟨rfl, rfl, rfl, by decide +kernel, rfl, by decide +kernel, by decide +kernel⟩
abbrev s_table_size : Stmt := topS 11
abbrev N_table_size : List Str := ["size", "width", "count", "_"]
theorem sc_table_size : FnScope N_table_size ["size", "width"] (defScope s_table_size) := ⟨rfl, rfl, rfl, by decide +kernel, rfl, by decide +kernel, by decide +kernel⟩
abbrev s_check_map : Stmt := topS 12
abbrev N_check_map : List Str := ["one", "size", "offset", "width", "table", "cell"]
theorem sc_check_map : FnScope N_check_map ["one"] (defScope s_check_map) := ⟨rfl, rfl, rfl, by decide +kernel, rfl, by decide +kernel, by decide +kernel⟩
abbrev s_check_machine : Stmt := topS 27
abbrev N_check_machine : List Str := ["machine", "size", "states", "arrows", "source", "cell", "target", "at"]
theorem sc_check_machine : FnScope N_check_machine ["machine"] (defScope s_check_machine) := ⟨rfl, rfl, rfl, by decide +kernel, rfl, by decide +kernel, by decide +kernel⟩
abbrev s_shift_map : Stmt := topS 22
abbrev N_shift_map : List Str := ["size", "places", "cell"]
theorem sc_shift_map : FnScope N_shift_map ["size", "places"] (defScope s_shift_map) := ⟨rfl, rfl, rfl, by decide +kernel, rfl, by decide +kernel, by decide +kernel⟩
abbrev s_count_words : Stmt := topS 36
abbrev N_count_words : List Str := ["size", "length", "count", "_"]
theorem sc_count_words : FnScope N_count_words ["size", "length"] (defScope s_count_words) := ⟨rfl, rfl, rfl, by decide +kernel, rfl, by decide +kernel, by decide +kernel⟩
abbrev s_PairGraph____init__ : Stmt := inClass (topS 37) 0
abbrev N_PairGraph____init__ : List Str := ["self", "one", "_"]
theorem sc_PairGraph____init__ : FnScope N_PairGraph____init__ ["self", "one"] (defScope s_PairGraph____init__) := ⟨rfl, rfl, rfl, by decide +kernel, rfl, by decide +kernel, by decide +kernel⟩
abbrev s_diamond_table : Stmt := topS 38
abbrev N_diamond_table : List Str := ["one", "graph", "known", "todo", "state", "first", "second", "pair"]
theorem sc_diamond_table : FnScope N_diamond_table ["one"] (defScope s_diamond_table) := ⟨rfl, rfl, rfl, by decide +kernel, rfl, by decide +kernel, by decide +kernel⟩
abbrev s_decide_finite : Stmt := topS 42
abbrev N_decide_finite : List Str := ["one", "table", "first", "second"]
theorem sc_decide_finite : FnScope N_decide_finite ["one"] (defScope s_decide_finite) := ⟨rfl, rfl, rfl, by decide +kernel, rfl, by decide +kernel, by decide +kernel⟩
abbrev s_Desk____init__ : Stmt := inClass (topS 80) 0
abbrev N_Desk____init__ : List Str := ["self", "one"]
theorem sc_Desk____init__ : FnScope N_Desk____init__ ["self", "one"] (defScope s_Desk____init__) := ⟨rfl, rfl, rfl, by decide +kernel, rfl, by decide +kernel, by decide +kernel⟩
abbrev s_require : Stmt := topS 75
abbrev N_require : List Str := ["holds", "message"]
theorem sc_require : FnScope N_require ["holds", "message"] (defScope s_require) := ⟨rfl, rfl, rfl, by decide +kernel, rfl, by decide +kernel, by decide +kernel⟩
abbrev s_Desk__ask : Stmt := inClass (topS 80) 1
abbrev N_Desk__ask : List Str := ["self", "command", "words", "word", "count", "numbers", "one"]
theorem sc_Desk__ask : FnScope N_Desk__ask ["self", "command"] (defScope s_Desk__ask) := ⟨rfl, rfl, rfl, by decide +kernel, rfl, by decide +kernel, by decide +kernel⟩
abbrev s__law_refusal : Stmt := topS 86
abbrev N__law_refusal : List Str := ["_law_draws_here", "_law_way", "_law_k", "_law_e"]
theorem sc__law_refusal : FnScope N__law_refusal ["_law_draws_here", "_law_way"] (defScope s__law_refusal) := ⟨rfl, rfl, rfl, by decide +kernel, rfl, by decide +kernel, by decide +kernel⟩
abbrev s_law : Stmt := topS 87
abbrev N_law : List Str := ["_law_script", "_law_draws_here", "_law_text", "_law_made", "_law_base", "_law_k", "_law_other", "_law_told", "_law_one_here", "_law_way"]
theorem sc_law : FnScope N_law ["_law_script"] (defScope s_law) := ⟨rfl, rfl, rfl, by decide +kernel, rfl, by decide +kernel, by decide +kernel⟩
structure Bl (K : PySem.W.Frag) (mg : Str → Option Value) (w : World) (cm : Nat → Addr) (C_RowError C_BadMap C_BadMachine C_OutOfRange C_TooLong C_BadCommand : Addr) : Prop where
  b_str : mg "str" = none
  b_ValueError : mg "ValueError" = none
  b_isinstance : mg "isinstance" = none
  b_any : mg "any" = none
  b_range : mg "range" = none
  b_all : mg "all" = none
  b_int : mg "int" = none
  b_abs : mg "abs" = none
  b_len : mg "len" = none
  b_list : mg "list" = none
  v_MAX_OFFSET : ∃ t, mg "MAX_OFFSET" = some (.int 100 t)
  v_MAX_TABLE : ∃ t, mg "MAX_TABLE" = some (.int 4096 t)
  v_MAX_STATES : ∃ t, mg "MAX_STATES" = some (.int 2048 t)
  v_MOST_STATES : ∃ t, mg "MOST_STATES" = some (.int 150 t)
  g_RowError : mg "RowError" = some (.ref C_RowError)
  g_BadMap : mg "BadMap" = some (.ref C_BadMap)
  g_BadMachine : mg "BadMachine" = some (.ref C_BadMachine)
  g_OutOfRange : mg "OutOfRange" = some (.ref C_OutOfRange)
  g_TooLong : mg "TooLong" = some (.ref C_TooLong)
  g_BadCommand : mg "BadCommand" = some (.ref C_BadCommand)
  f_BadMap : ClsF K mg "BadMap"
  f_BadMachine : ClsF K mg "BadMachine"
  f_OutOfRange : ClsF K mg "OutOfRange"
  f_TooLong : ClsF K mg "TooLong"
  f_BadCommand : ClsF K mg "BadCommand"
  x_RowError : TabOk K mg (.ref C_RowError) [("RowError", true), ("BadMap", true), ("BadMachine", true), ("OutOfRange", true), ("TooLong", true), ("BadCommand", true)]
  i_ValueError : IsOk K mg (.type "ValueError") [("RowError", true), ("BadMap", true), ("BadMachine", true), ("OutOfRange", true), ("TooLong", true), ("BadCommand", true)]
  i_BadCommand : IsOk K mg (.ref C_BadCommand) [("RowError", false), ("BadMap", false), ("BadMachine", false), ("OutOfRange", false), ("TooLong", false), ("BadCommand", true)]
  i_TooLong : IsOk K mg (.ref C_TooLong) [("RowError", false), ("BadMap", false), ("BadMachine", false), ("OutOfRange", false), ("TooLong", true), ("BadCommand", false)]
  i_OutOfRange : IsOk K mg (.ref C_OutOfRange) [("RowError", false), ("BadMap", false), ("BadMachine", false), ("OutOfRange", true), ("TooLong", false), ("BadCommand", false)]
  i_BadMachine : IsOk K mg (.ref C_BadMachine) [("RowError", false), ("BadMap", false), ("BadMachine", true), ("OutOfRange", false), ("TooLong", false), ("BadCommand", false)]
  i_BadMap : IsOk K mg (.ref C_BadMap) [("RowError", false), ("BadMap", true), ("BadMachine", false), ("OutOfRange", false), ("TooLong", false), ("BadCommand", false)]
  i_RowError : IsOk K mg (.ref C_RowError) [("RowError", true), ("BadMap", true), ("BadMachine", true), ("OutOfRange", true), ("TooLong", true), ("BadCommand", true)]
  c_Desk : Cls K (cm 4)
  c_PairGraph : Cls K (cm 1)
  n_PairGraph_table : NoAttr K (cm 1) "table"
  n_PairGraph_width : NoAttr K (cm 1) "width"
  n_PairGraph_size : NoAttr K (cm 1) "size"
  n_PairGraph_states : NoAttr K (cm 1) "states"
  n_Desk_map : NoAttr K (cm 4) "map"
  k_LEAST : KTab K w mg "LEAST" [("reach", 0), ("finite", 0), ("reverse", 0), ("sums", 1), ("image", 1), ("after", 2), ("power", 1)]
  mk_BadCommand : MkX K mg (cm 14) "BadCommand"
  mk_TooLong : MkX K mg (cm 13) "TooLong"
  mk_OutOfRange : MkX K mg (cm 12) "OutOfRange"
  mk_BadMachine : MkX K mg (cm 11) "BadMachine"
  mk_BadMap : MkX K mg (cm 10) "BadMap"
  mk_RowError : MkX K mg (cm 15) "RowError"
  nm : NmOk mg cm [(15, "RowError"), (10, "BadMap"), (11, "BadMachine"), (12, "OutOfRange"), (13, "TooLong"), (14, "BadCommand")]
  tx : ∀ y ∈ (["RowError", "BadMap", "BadMachine", "OutOfRange", "TooLong", "BadCommand"] : List Str), ∃ C, mg y = some (.ref C)
  st : ∀ c ∈ [15, 10, 11, 12, 13, 14], StrC K (cm c)
section
variable {P : Program} {w : World} {K : PySem.W.Frag} {mg : Str → Option Value} {base : Heap} {fa C_RowError C_BadMap C_BadMachine C_OutOfRange C_TooLong C_BadCommand : Addr} {fd : FuncData} {cm : Nat → Addr}
theorem ok__law_draws (Fn : Fun K "_law_draws" "_law_draws" s__law_draws fa fd) (bl : Bl K mg w cm C_RowError C_BadMap C_BadMachine C_OutOfRange C_TooLong C_BadCommand)  : FG P w K mg base 1 fa fd ["_law_cell_here", "_law_limits"] (spD K mg 2 PF.f__law_draws) :=
  FG.body (cl := cm) (k := 0) (N := N__law_draws) Fn sc__law_draws fun cdv A outer s H B E hr hg => by
  have sc := sc__law_draws
  have tk : L2N.Takes (cxOf (L2N.CX P w) P w K mg base N__law_draws "_law_draws" (defScope s__law_draws) fa cdv A outer s H E) (fun c d _ H => E c d H) := L2N.takes_of rfl rfl rfl rfl
  have hp : PassesOwn (model P w) (cxOf (L2N.CX P w) P w K mg base N__law_draws "_law_draws" (defScope s__law_draws) fa cdv A outer s H E).A (cxOf (L2N.CX P w) P w K mg base N__law_draws "_law_draws" (defScope s__law_draws) fa cdv A outer s H E).env (cxOf (L2N.CX P w) P w K mg base N__law_draws "_law_draws" (defScope s__law_draws) fa cdv A outer s H E).xe := passes_of rfl
  exact (psdsCons (psdSet sc.nd (i := 2) rfl (Or.inl rfl) (pdList pdsNil))
  (psdsCons (psdSetZ sc.nd (i := 3) rfl (Or.inl rfl) (pdB1 crAbs bl.b_abs rfl (pdTy1 crInt bl.b_int rfl (pdVar (pv 0)))))
  (psdsCons (psdSetZ sc.nd (i := 4) rfl (Or.inl rfl) (pdMod (pdTy1 crInt bl.b_int rfl (pdVar (pv 3))) pdInt))
  (psdsCons (psdSetZ sc.nd (i := 5) rfl (Or.inl rfl) (pdOrV (pdLt hr.units (pdVar (pv 0)) pdInt) (pdOne (pdGe hr.units (pdVar (pv 0)) (pdPow pdInt pdInt)))))
  (psdsCons (psdForD (D := [6]) hp rfl (pidL (pdVar (pv 1))) (pgdName sc.nd (i := 6) rfl (Or.inl rfl))
  (psdsOne (psdIf ((pbAnd (pbTruth (pdVar (pv 5))) (pbAnd1 (pbGt hr.units (pdVar (pv 3)) pdInt)))).pb
  (psdsCons (psdApp (pv 2) (pdMod (pdTy1 crInt bl.b_int rfl (pdVar (pv 3))) (pdVar (pv 6))))
  (psdsOne (psdSetZ sc.nd (i := 3) rfl (Or.inl rfl) (pdDiv (pdVar (pv 3)) (pdVar (pv 6))))))
  (psdsCons (psdSetZ sc.nd (i := 4) rfl (Or.inl rfl) (pdMod (pdTy1 crInt bl.b_int rfl (pdAdd (pdMul (pdVar (pv 4)) pdInt) pdInt)) pdInt))
  (psdsCons (psdSetZ sc.nd (i := 4) rfl (Or.inl rfl) (pdMod (pdTy1 crInt bl.b_int rfl (pdAdd (pdMul (pdVar (pv 4)) pdInt) pdInt)) pdInt))
  (psdsOne (psdApp (pv 2) (pdMod (pdTy1 crInt bl.b_int rfl (pdDiv (pdVar (pv 4)) pdInt)) (pdVar (pv 6))))))))))
  (psdsFg (D := [3, 4]) (psdsOne (psdRetOwn (pv 2)))))))))
theorem ok__law_cell (Fn : Fun K "_law_cell" "_law_cell" s__law_cell fa fd) (bl : Bl K mg w cm C_RowError C_BadMap C_BadMachine C_OutOfRange C_TooLong C_BadCommand)  : FG P w K mg base 1 fa fd ["_law_script", "_law_k"] (spD K mg 2 PF.f__law_cell) :=
  FG.body (cl := cm) (k := 0) (N := N__law_cell) Fn sc__law_cell fun cdv A outer s H B E hr hg => by
  have sc := sc__law_cell
  have tk : L2N.Takes (cxOf (L2N.CX P w) P w K mg base N__law_cell "_law_cell" (defScope s__law_cell) fa cdv A outer s H E) (fun c d _ H => E c d H) := L2N.takes_of rfl rfl rfl rfl
  have hp : PassesOwn (model P w) (cxOf (L2N.CX P w) P w K mg base N__law_cell "_law_cell" (defScope s__law_cell) fa cdv A outer s H E).A (cxOf (L2N.CX P w) P w K mg base N__law_cell "_law_cell" (defScope s__law_cell) fa cdv A outer s H E).env (cxOf (L2N.CX P w) P w K mg base N__law_cell "_law_cell" (defScope s__law_cell) fa cdv A outer s H E).xe := passes_of rfl
  exact (psdsCons (psdIf (pbLt hr.units (pdVar (pv 1)) (pdB1 crLen bl.b_len rfl (pdVar (pv 0))))
  (psdsOne (psdRet (pdTy1 crInt bl.b_int rfl (pdIx (pdVar (pv 0)) (pdVar (pv 1))))))
  psdsNil)
  (psdsOne (psdRet pdInt)))
theorem ok__law_kinds (Fn : Fun K "_law_kinds" "_law_kinds" s__law_kinds fa fd) (bl : Bl K mg w cm C_RowError C_BadMap C_BadMachine C_OutOfRange C_TooLong C_BadCommand)  : FG P w K mg base 1 fa fd ["_law_e"] (spX K mg base 0 PF.f__law_kinds) :=
  FG.bodyX (cl := cm) (k := 0) (N := N__law_kinds) Fn sc__law_kinds 0 rfl fun cdv A outer s H B E ea ec he hcd hr hg => by
  have he' : HeOk (cxOf (L2N.CX P w) P w K mg base N__law_kinds "_law_kinds" (defScope s__law_kinds) fa cdv A outer s H E) ⟨H, B, ea, ec, BS.SetBO P w, cm, 0⟩ := he
  have sc := sc__law_kinds
  have tk : L2N.Takes (cxOf (L2N.CX P w) P w K mg base N__law_kinds "_law_kinds" (defScope s__law_kinds) fa cdv A outer s H E) (fun c d _ H => E c d H) := L2N.takes_of rfl rfl rfl rfl
  have hp : PassesOwn (model P w) (cxOf (L2N.CX P w) P w K mg base N__law_kinds "_law_kinds" (defScope s__law_kinds) fa cdv A outer s H E).A (cxOf (L2N.CX P w) P w K mg base N__law_kinds "_law_kinds" (defScope s__law_kinds) fa cdv A outer s H E).env (cxOf (L2N.CX P w) P w K mg base N__law_kinds "_law_kinds" (defScope s__law_kinds) fa cdv A outer s H E).xe := passes_of rfl
  exact (psdsOne (psdRet (pdList (pdsCons (pdIsEX bl.i_BadMap he' (pv 0) (pe_glob (v := .ref C_BadMap) (by rfl) bl.g_BadMap rfl) (fun _ h => h) bl.b_isinstance) (pdsCons (pdIsEX bl.i_BadMachine he' (pv 0) (pe_glob (v := .ref C_BadMachine) (by rfl) bl.g_BadMachine rfl) (fun _ h => h) bl.b_isinstance) (pdsCons (pdIsEX bl.i_OutOfRange he' (pv 0) (pe_glob (v := .ref C_OutOfRange) (by rfl) bl.g_OutOfRange rfl) (fun _ h => h) bl.b_isinstance) (pdsCons (pdIsEX bl.i_TooLong he' (pv 0) (pe_glob (v := .ref C_TooLong) (by rfl) bl.g_TooLong rfl) (fun _ h => h) bl.b_isinstance) (pdsCons (pdIsEX bl.i_BadCommand he' (pv 0) (pe_glob (v := .ref C_BadCommand) (by rfl) bl.g_BadCommand rfl) (fun _ h => h) bl.b_isinstance) pdsNil))))))))
theorem okH__law_kinds (Fn : Fun K "_law_kinds" "_law_kinds" s__law_kinds fa fd) (bl : Bl K mg w cm C_RowError C_BadMap C_BadMachine C_OutOfRange C_TooLong C_BadCommand)  : FGH P w K mg base 1 fa fd ["_law_e"] (spXH K mg 0 PF.f__law_kinds) :=
  FG.bodyXH (cl := cm) (k := 0) (N := N__law_kinds) Fn sc__law_kinds 0 rfl fun cdv A outer s H B E p0 ec hot0 he hr hg => by
  have he' : HeOk (cxHN P w K mg base N__law_kinds "_law_kinds" (defScope s__law_kinds) fa cdv A outer s H E p0) ⟨H, B, p0.1, ec, BS.SetBO P w, cm, 0⟩ := fun y hy => let ⟨C, a, b⟩ := he y hy; ⟨C, a, .inr (.inr b)⟩
  have sc := sc__law_kinds
  have tk : L2N.Takes (cxHN P w K mg base N__law_kinds "_law_kinds" (defScope s__law_kinds) fa cdv A outer s H E p0) (fun c d _ H => E c d H) := L2N.takes_of rfl rfl rfl rfl
  have hot : L2H.HotC (cxHN P w K mg base N__law_kinds "_law_kinds" (defScope s__law_kinds) fa cdv A outer s H E p0) := ⟨p0, hot0, List.mem_singleton.mpr rfl⟩
  exact (psdsOne (psdRet (pdList (pdsCons (pdIsEX bl.i_BadMap he' (pv 0) (pe_glob (v := .ref C_BadMap) (by rfl) bl.g_BadMap rfl) (fun _ h => h) bl.b_isinstance) (pdsCons (pdIsEX bl.i_BadMachine he' (pv 0) (pe_glob (v := .ref C_BadMachine) (by rfl) bl.g_BadMachine rfl) (fun _ h => h) bl.b_isinstance) (pdsCons (pdIsEX bl.i_OutOfRange he' (pv 0) (pe_glob (v := .ref C_OutOfRange) (by rfl) bl.g_OutOfRange rfl) (fun _ h => h) bl.b_isinstance) (pdsCons (pdIsEX bl.i_TooLong he' (pv 0) (pe_glob (v := .ref C_TooLong) (by rfl) bl.g_TooLong rfl) (fun _ h => h) bl.b_isinstance) (pdsCons (pdIsEX bl.i_BadCommand he' (pv 0) (pe_glob (v := .ref C_BadCommand) (by rfl) bl.g_BadCommand rfl) (fun _ h => h) bl.b_isinstance) pdsNil))))))))
theorem ok__law_one (Fn : Fun K "_law_one" "_law_one" s__law_one fa fd) (bl : Bl K mg w cm C_RowError C_BadMap C_BadMachine C_OutOfRange C_TooLong C_BadCommand) (h__law_kinds : HasX P w K mg base 1 "_law_kinds" ["_law_e"] 0 PF.f__law_kinds) : FG P w K mg base 2 fa fd ["_law_e", "_law_which"] (spX K mg base 1 PF.f__law_one) :=
  FG.bodyX (cl := cm) (k := 1) (N := N__law_one) Fn sc__law_one 1 rfl fun cdv A outer s H B E ea ec he hcd hr hg => by
  have he' : HeOk (cxOf (L2N.CX P w) P w K mg base N__law_one "_law_one" (defScope s__law_one) fa cdv A outer s H E) ⟨H, B, ea, ec, BS.SetBO P w, cm, 0⟩ := he
  have sc := sc__law_one
  have tk : L2N.Takes (cxOf (L2N.CX P w) P w K mg base N__law_one "_law_one" (defScope s__law_one) fa cdv A outer s H E) (fun c d _ H => E c d H) := L2N.takes_of rfl rfl rfl rfl
  have hp : PassesOwn (model P w) (cxOf (L2N.CX P w) P w K mg base N__law_one "_law_one" (defScope s__law_one) fa cdv A outer s H E).A (cxOf (L2N.CX P w) P w K mg base N__law_one "_law_one" (defScope s__law_one) fa cdv A outer s H E).env (cxOf (L2N.CX P w) P w K mg base N__law_one "_law_one" (defScope s__law_one) fa cdv A outer s H E).xe := passes_of rfl
  exact (psdsCons (psdIf ((pbOr (pbNot (pbTruth (pdIsEX bl.i_RowError he' (pv 0) (pe_glob (v := .ref C_RowError) (by rfl) bl.g_RowError rfl) (fun _ h => h) bl.b_isinstance))) (pbOr1 (pbNot (pbTruth (pdIsEX bl.i_ValueError he' (pv 0) (pe_bltn (v := .ty "ValueError") (by rfl) bl.b_ValueError (by rfl) rfl) (fun _ h => h) bl.b_isinstance)))))).pb
  (psdsOne (psdRet pdBl))
  psdsNil)
  (psdsOne (psdRet (pdEq hr.units (pdCallX' (tn := ["RowError", "BadMap", "BadMachine", "OutOfRange", "TooLong", "BadCommand"]) (pv 0) rfl he' h__law_kinds hr hg tk pdsNil) (pdLc (own := [("_law_k", 2)]) rfl sc.nd (pidR1 bl.b_range (pdsCons pdInt pdsNil)) (blkOk_by (own := [("_law_k", 2)]) (by kernel_rfl)) tg_name (keeps_name (by decide)) (fun _ _ _ _ _ => (pg_name (i := 2) sc.nd rfl (by first | exact Or.inl rfl | exact Or.inr rfl))) (fun _ _ _ _ _ => pbsNil) (fun _ _ _ _ _ => (pdEq hr.units (pdVar (pv 2)) (pdVar (pv 1)))))))))
theorem okH__law_one (Fn : Fun K "_law_one" "_law_one" s__law_one fa fd) (bl : Bl K mg w cm C_RowError C_BadMap C_BadMachine C_OutOfRange C_TooLong C_BadCommand) (h__law_kinds : HasXH P w K mg base 1 "_law_kinds" ["_law_e"] 0 PF.f__law_kinds) : FGH P w K mg base 2 fa fd ["_law_e", "_law_which"] (spXH K mg 1 PF.f__law_one) :=
  FG.bodyXH (cl := cm) (k := 1) (N := N__law_one) Fn sc__law_one 1 rfl fun cdv A outer s H B E p0 ec hot0 he hr hg => by
  have he' : HeOk (cxHN P w K mg base N__law_one "_law_one" (defScope s__law_one) fa cdv A outer s H E p0) ⟨H, B, p0.1, ec, BS.SetBO P w, cm, 0⟩ := fun y hy => let ⟨C, a, b⟩ := he y hy; ⟨C, a, .inr (.inr b)⟩
  have sc := sc__law_one
  have tk : L2N.Takes (cxHN P w K mg base N__law_one "_law_one" (defScope s__law_one) fa cdv A outer s H E p0) (fun c d _ H => E c d H) := L2N.takes_of rfl rfl rfl rfl
  have hot : L2H.HotC (cxHN P w K mg base N__law_one "_law_one" (defScope s__law_one) fa cdv A outer s H E p0) := ⟨p0, hot0, List.mem_singleton.mpr rfl⟩
  exact (psdsCons (psdIf ((pbOr (pbNot (pbTruth (pdIsEX bl.i_RowError he' (pv 0) (pe_glob (v := .ref C_RowError) (by rfl) bl.g_RowError rfl) (fun _ h => h) bl.b_isinstance))) (pbOr1 (pbNot (pbTruth (pdIsEX bl.i_ValueError he' (pv 0) (pe_bltn (v := .ty "ValueError") (by rfl) bl.b_ValueError (by rfl) rfl) (fun _ h => h) bl.b_isinstance)))))).pb
  (psdsOne (psdRet pdBl))
  psdsNil)
  (psdsOne (psdRet (pdEq hr.units (pdCallXH (tn := ["RowError", "BadMap", "BadMachine", "OutOfRange", "TooLong", "BadCommand"]) hot0 rfl bl.tx (hec_of he) rfl (pv 0) h__law_kinds hr hg tk pdsNil) (pdLcH (own := [("_law_k", 2)]) hot sc.nd (pidR1H bl.b_range (pdsCons pdInt pdsNil)) (blkOk_by (own := [("_law_k", 2)]) (by kernel_rfl)) tg_name (keeps_name (by decide)) (fun _ _ _ _ _ => (pg_name (i := 2) sc.nd rfl (by first | exact Or.inl rfl | exact Or.inr rfl))) (fun _ _ _ _ _ => pbsNil) (fun _ _ _ _ _ => (pdEq hr.units (pdVar (pv 2)) (pdVar (pv 1)))))))))
theorem ok_table_size (Fn : Fun K "table_size" "table_size" s_table_size fa fd) (bl : Bl K mg w cm C_RowError C_BadMap C_BadMachine C_OutOfRange C_TooLong C_BadCommand)  : FG P w K mg base 1 fa fd ["size", "width"] (spD K mg 2 PF.f_table_size) :=
  FG.body (cl := cm) (k := 0) (N := N_table_size) Fn sc_table_size fun cdv A outer s H B E hr hg => by
  have sc := sc_table_size
  have tk : L2N.Takes (cxOf (L2N.CX P w) P w K mg base N_table_size "table_size" (defScope s_table_size) fa cdv A outer s H E) (fun c d _ H => E c d H) := L2N.takes_of rfl rfl rfl rfl
  have hp : PassesOwn (model P w) (cxOf (L2N.CX P w) P w K mg base N_table_size "table_size" (defScope s_table_size) fa cdv A outer s H E).A (cxOf (L2N.CX P w) P w K mg base N_table_size "table_size" (defScope s_table_size) fa cdv A outer s H E).env (cxOf (L2N.CX P w) P w K mg base N_table_size "table_size" (defScope s_table_size) fa cdv A outer s H E).xe := passes_of rfl
  exact (psdsCons (psdSetZ sc.nd (i := 2) rfl (Or.inl rfl) pdInt)
  (psdsCons (psdForD (D := [3]) hp rfl (pidR1 bl.b_range (pdsCons (pdVar (pv 1)) pdsNil)) (pgdName sc.nd (i := 3) rfl (Or.inl rfl))
  (psdsCons (psdSetZ sc.nd (i := 2) rfl (Or.inl rfl) (pdMul (pdVar (pv 2)) (pdVar (pv 0))))
  (psdsOne (psdIf (pbGt hr.units (pdVar (pv 2)) (pdGloI bl.v_MAX_TABLE))
  (psdsOne psdBreak)
  psdsNil))))
  (psdsOne (psdRet (pdVar (pv 2))))))
theorem ok_check_map (Fn : Fun K "check_map" "check_map" s_check_map fa fd) (bl : Bl K mg w cm C_RowError C_BadMap C_BadMachine C_OutOfRange C_TooLong C_BadCommand) (h_table_size : Has P w K mg base 1 "table_size" ["size", "width"] PF.f_table_size) : FG P w K mg base 2 fa fd ["one"] (spD K mg 1 PF.f_check_map) :=
  FG.body (cl := cm) (k := 1) (N := N_check_map) Fn sc_check_map fun cdv A outer s H B E hr hg => by
  have sc := sc_check_map
  have tk : L2N.Takes (cxOf (L2N.CX P w) P w K mg base N_check_map "check_map" (defScope s_check_map) fa cdv A outer s H E) (fun c d _ H => E c d H) := L2N.takes_of rfl rfl rfl rfl
  have hp : PassesOwn (model P w) (cxOf (L2N.CX P w) P w K mg base N_check_map "check_map" (defScope s_check_map) fa cdv A outer s H E).A (cxOf (L2N.CX P w) P w K mg base N_check_map "check_map" (defScope s_check_map) fa cdv A outer s H E).env (cxOf (L2N.CX P w) P w K mg base N_check_map "check_map" (defScope s_check_map) fa cdv A outer s H E).xe := passes_of rfl
  exact (psdsCons (psdUnp (pdVar (pv 0)) (pgdTup rfl (pgdsCons sc.nd (i := 1) rfl (Or.inr rfl) (pgdsCons sc.nd (i := 2) rfl (Or.inl rfl) (pgdsCons sc.nd (i := 3) rfl (Or.inl rfl) (pgdsCons sc.nd (i := 4) rfl (Or.inl rfl) pgdsNil))))))
  (psdsCons (psdIf ((pbOr (pbNot (pbChain (dopLe hr.units).op (dopLe hr.units).op pdInt (pdVar (pv 1)) pdInt)) (pbOr1 (pbNot (pbChain (dopLe hr.units).op (dopLe hr.units).op (pdNeg (pdGloI bl.v_MAX_OFFSET)) (pdVar (pv 2)) (pdGloI bl.v_MAX_OFFSET)))))).pb
  (psdsOne (psdRaise rfl tk bl.f_BadMap))
  psdsNil)
  (psdsCons (psdIf ((pbOr (pbNot (pbChain (dopLe hr.units).op (dopLe hr.units).op pdInt (pdVar (pv 3)) (pdGloI bl.v_MAX_TABLE))) (pbOr (pbGt hr.units (pdCallH h_table_size hr hg tk (pdsCons (pdVar (pv 1)) (pdsCons (pdVar (pv 3)) pdsNil))) (pdGloI bl.v_MAX_TABLE)) (pbOr1 (pbNe hr.units (pdB1 crLen bl.b_len rfl (pdVar (pv 4))) (pdCallH h_table_size hr hg tk (pdsCons (pdVar (pv 1)) (pdsCons (pdVar (pv 3)) pdsNil)))))))).pb
  (psdsOne (psdRaise rfl tk bl.f_BadMap))
  psdsNil)
  (psdsOne (psdIf (pbNot (pbTruth (pdB1 (crAll rfl) bl.b_all rfl (pdLc (own := [("cell", 5)]) rfl sc.nd (pidL (pdVar (pv 4))) (blkOk_by (own := [("cell", 5)]) (by kernel_rfl)) tg_name (keeps_name (by decide)) (fun _ _ _ _ _ => (pg_name (i := 5) sc.nd rfl (by first | exact Or.inl rfl | exact Or.inr rfl))) (fun _ _ _ _ _ => pbsNil) (fun _ _ _ _ _ => (pdChain (dopLe hr.units).op (dopLt hr.units).op pdInt (pdVar (pv 5)) (pdVar (pv 1))))))))
  (psdsOne (psdRaise rfl tk bl.f_BadMap))
  psdsNil)))))
theorem ok_check_machine (Fn : Fun K "check_machine" "check_machine" s_check_machine fa fd) (bl : Bl K mg w cm C_RowError C_BadMap C_BadMachine C_OutOfRange C_TooLong C_BadCommand)  : FG P w K mg base 1 fa fd ["machine"] (spD K mg 1 PF.f_check_machine) :=
  FG.body (cl := cm) (k := 0) (N := N_check_machine) Fn sc_check_machine fun cdv A outer s H B E hr hg => by
  have sc := sc_check_machine
  have tk : L2N.Takes (cxOf (L2N.CX P w) P w K mg base N_check_machine "check_machine" (defScope s_check_machine) fa cdv A outer s H E) (fun c d _ H => E c d H) := L2N.takes_of rfl rfl rfl rfl
  have hp : PassesOwn (model P w) (cxOf (L2N.CX P w) P w K mg base N_check_machine "check_machine" (defScope s_check_machine) fa cdv A outer s H E).A (cxOf (L2N.CX P w) P w K mg base N_check_machine "check_machine" (defScope s_check_machine) fa cdv A outer s H E).env (cxOf (L2N.CX P w) P w K mg base N_check_machine "check_machine" (defScope s_check_machine) fa cdv A outer s H E).xe := passes_of rfl
  exact (psdsCons (psdUnp (pdVar (pv 0)) (pgdTup rfl (pgdsCons sc.nd (i := 1) rfl (Or.inl rfl) (pgdsCons sc.nd (i := 2) rfl (Or.inl rfl) (pgdsCons sc.nd (i := 3) rfl (Or.inr rfl) pgdsNil)))))
  (psdsCons (psdIf ((pbOr (pbNot (pbChain (dopLe hr.units).op (dopLe hr.units).op pdInt (pdVar (pv 1)) pdInt)) (pbOr1 (pbNot (pbChain (dopLe hr.units).op (dopLe hr.units).op pdInt (pdVar (pv 2)) (pdGloI bl.v_MAX_STATES)))))).pb
  (psdsOne (psdRaise rfl tk bl.f_BadMachine))
  psdsNil)
  (psdsCons (psdForD (D := [4, 5, 6]) hp rfl (pidL (pdVar (pv 3))) (pgdTup rfl (pgdsCons sc.nd (i := 4) rfl (Or.inl rfl) (pgdsCons sc.nd (i := 5) rfl (Or.inl rfl) (pgdsCons sc.nd (i := 6) rfl (Or.inl rfl) pgdsNil))))
  (psdsOne (psdIf ((pbOr (pbNot (pbChain (dopLe hr.units).op (dopLt hr.units).op pdInt (pdVar (pv 4)) (pdVar (pv 2)))) (pbOr (pbNot (pbChain (dopLe hr.units).op (dopLt hr.units).op pdInt (pdVar (pv 5)) (pdVar (pv 1)))) (pbOr1 (pbNot (pbChain (dopLe hr.units).op (dopLt hr.units).op pdInt (pdVar (pv 6)) (pdVar (pv 2)))))))).pb
  (psdsOne (psdRaise rfl tk bl.f_BadMachine))
  psdsNil)))
  (psdsOne (psdIf (pbTruth (pdB1 (crAny rfl) bl.b_any rfl (pdLc (own := [("at", 7)]) rfl sc.nd (pidR1 bl.b_range (pdsCons (pdSub (pdB1 crLen bl.b_len rfl (pdVar (pv 3))) pdInt) pdsNil)) (blkOk_by (own := [("at", 7)]) (by kernel_rfl)) tg_name (keeps_name (by decide)) (fun _ _ _ _ _ => (pg_name (i := 7) sc.nd rfl (by first | exact Or.inl rfl | exact Or.inr rfl))) (fun _ _ _ _ _ => pbsNil) (fun _ _ _ _ _ => (pdGe hr.units (pdIx (pdVar (pv 3)) (pdVar (pv 7))) (pdIx (pdVar (pv 3)) (pdAdd (pdVar (pv 7)) pdInt)))))))
  (psdsOne (psdRaise rfl tk bl.f_BadMachine))
  psdsNil)))))
theorem ok_shift_map (Fn : Fun K "shift_map" "shift_map" s_shift_map fa fd) (bl : Bl K mg w cm C_RowError C_BadMap C_BadMachine C_OutOfRange C_TooLong C_BadCommand)  : FG P w K mg base 1 fa fd ["size", "places"] (spD K mg 2 PF.f_shift_map) :=
  FG.body (cl := cm) (k := 0) (N := N_shift_map) Fn sc_shift_map fun cdv A outer s H B E hr hg => by
  have sc := sc_shift_map
  have tk : L2N.Takes (cxOf (L2N.CX P w) P w K mg base N_shift_map "shift_map" (defScope s_shift_map) fa cdv A outer s H E) (fun c d _ H => E c d H) := L2N.takes_of rfl rfl rfl rfl
  have hp : PassesOwn (model P w) (cxOf (L2N.CX P w) P w K mg base N_shift_map "shift_map" (defScope s_shift_map) fa cdv A outer s H E).A (cxOf (L2N.CX P w) P w K mg base N_shift_map "shift_map" (defScope s_shift_map) fa cdv A outer s H E).env (cxOf (L2N.CX P w) P w K mg base N_shift_map "shift_map" (defScope s_shift_map) fa cdv A outer s H E).xe := passes_of rfl
  exact (psdsCons (psdIf ((pbOr (pbNot (pbChain (dopLe hr.units).op (dopLe hr.units).op pdInt (pdVar (pv 0)) pdInt)) (pbOr1 (pbNot (pbChain (dopLe hr.units).op (dopLe hr.units).op (pdNeg (pdGloI bl.v_MAX_OFFSET)) (pdVar (pv 1)) (pdGloI bl.v_MAX_OFFSET)))))).pb
  (psdsOne (psdRaise rfl tk bl.f_OutOfRange))
  psdsNil)
  (psdsOne (psdRet (pdTup (pdsCons (pdVar (pv 0)) (pdsCons (pdVar (pv 1)) (pdsCons pdInt (pdsCons (pdLc (own := [("cell", 2)]) rfl sc.nd (pidR1 bl.b_range (pdsCons (pdVar (pv 0)) pdsNil)) (blkOk_by (own := [("cell", 2)]) (by kernel_rfl)) tg_name (keeps_name (by decide)) (fun _ _ _ _ _ => (pg_name (i := 2) sc.nd rfl (by first | exact Or.inl rfl | exact Or.inr rfl))) (fun _ _ _ _ _ => pbsNil) (fun _ _ _ _ _ => (pdVar (pv 2)))) pdsNil))))))))
theorem ok_count_words (Fn : Fun K "count_words" "count_words" s_count_words fa fd) (bl : Bl K mg w cm C_RowError C_BadMap C_BadMachine C_OutOfRange C_TooLong C_BadCommand)  : FG P w K mg base 1 fa fd ["size", "length"] (spD K mg 2 PF.f_count_words) :=
  FG.body (cl := cm) (k := 0) (N := N_count_words) Fn sc_count_words fun cdv A outer s H B E hr hg => by
  have sc := sc_count_words
  have tk : L2N.Takes (cxOf (L2N.CX P w) P w K mg base N_count_words "count_words" (defScope s_count_words) fa cdv A outer s H E) (fun c d _ H => E c d H) := L2N.takes_of rfl rfl rfl rfl
  have hp : PassesOwn (model P w) (cxOf (L2N.CX P w) P w K mg base N_count_words "count_words" (defScope s_count_words) fa cdv A outer s H E).A (cxOf (L2N.CX P w) P w K mg base N_count_words "count_words" (defScope s_count_words) fa cdv A outer s H E).env (cxOf (L2N.CX P w) P w K mg base N_count_words "count_words" (defScope s_count_words) fa cdv A outer s H E).xe := passes_of rfl
  exact (psdsCons (psdSetZ sc.nd (i := 2) rfl (Or.inl rfl) pdInt)
  (psdsCons (psdForD (D := [3]) hp rfl (pidR1 bl.b_range (pdsCons (pdVar (pv 1)) pdsNil)) (pgdName sc.nd (i := 3) rfl (Or.inl rfl))
  (psdsOne (psdSetZ sc.nd (i := 2) rfl (Or.inl rfl) (pdMul (pdVar (pv 2)) (pdVar (pv 0))))))
  (psdsOne (psdRet (pdVar (pv 2))))))
theorem ok_PairGraph____init__ (Fn : Fun K "__init__" "PairGraph.__init__" s_PairGraph____init__ fa fd) (bl : Bl K mg w cm C_RowError C_BadMap C_BadMachine C_OutOfRange C_TooLong C_BadCommand) (h_count_words : Has P w K mg base 1 "count_words" ["size", "length"] PF.f_count_words) : FG P w K mg base 2 fa fd ["self", "one"] (spI K mg (cm 1) 1 PF.f_PairGraph____init__) :=
  FG.bodyI (cl := cm) (c := 1) (k := 1) (N := N_PairGraph____init__) Fn sc_PairGraph____init__ 1 rfl fun cdv A outer s H B E p0 hcd hr hg => by
  have sc := sc_PairGraph____init__
  have tk : L2N.Takes (cxOf (L2N.CX P w) P w K mg base N_PairGraph____init__ "PairGraph.__init__" (defScope s_PairGraph____init__) fa cdv A outer s H E) (fun c d _ H => E c d H) := L2N.takes_of rfl rfl rfl rfl
  have hp : PassesOwn (model P w) (cxOf (L2N.CX P w) P w K mg base N_PairGraph____init__ "PairGraph.__init__" (defScope s_PairGraph____init__) fa cdv A outer s H E).A (cxOf (L2N.CX P w) P w K mg base N_PairGraph____init__ "PairGraph.__init__" (defScope s_PairGraph____init__) fa cdv A outer s H E).env (cxOf (L2N.CX P w) P w K mg base N_PairGraph____init__ "PairGraph.__init__" (defScope s_PairGraph____init__) fa cdv A outer s H E).xe := passes_of rfl
  exact (psdsCons (psdUnpF (pdVar (pv 1)) rfl (pgfFld (pv 0) bl.c_PairGraph bl.n_PairGraph_size (pgfName sc.nd (j := 2) rfl (Or.inl rfl) (pgfFld (pv 0) bl.c_PairGraph bl.n_PairGraph_width (pgfFld (pv 0) bl.c_PairGraph bl.n_PairGraph_table pgfNil)))))
  (psdsCons (psdFldS (pv 0) (pdCallH h_count_words hr hg tk (pdsCons (pdFld (pv 0) bl.c_PairGraph bl.n_PairGraph_size) (pdsCons (pdSub (pdFld (pv 0) bl.c_PairGraph bl.n_PairGraph_width) pdInt) pdsNil))) bl.c_PairGraph bl.n_PairGraph_states)
  (psdsOne (psdIf (pbGt hr.units (pdFld (pv 0) bl.c_PairGraph bl.n_PairGraph_states) (pdGloI bl.v_MOST_STATES))
  (psdsOne (psdRaise rfl tk bl.f_TooLong))
  psdsNil))))
theorem ok_diamond_table (Fn : Fun K "diamond_table" "diamond_table" s_diamond_table fa fd) (bl : Bl K mg w cm C_RowError C_BadMap C_BadMachine C_OutOfRange C_TooLong C_BadCommand) (h_PairGraph____init__ : HasI P w K mg base 2 (cm 1) "PairGraph" ["self", "one"] 1 PF.f_PairGraph____init__) : FG P w K mg base 4 fa fd ["one"] (spD K mg 1 PF.f_diamond_table_k17) :=
  FG.body (cl := cm) (k := 3) (N := N_diamond_table) Fn sc_diamond_table fun cdv A outer s H B E hr hg => by
  have sc := sc_diamond_table
  have tk : L2N.Takes (cxOf (L2N.CX P w) P w K mg base N_diamond_table "diamond_table" (defScope s_diamond_table) fa cdv A outer s H E) (fun c d _ H => E c d H) := L2N.takes_of rfl rfl rfl rfl
  have hp : PassesOwn (model P w) (cxOf (L2N.CX P w) P w K mg base N_diamond_table "diamond_table" (defScope s_diamond_table) fa cdv A outer s H E).A (cxOf (L2N.CX P w) P w K mg base N_diamond_table "diamond_table" (defScope s_diamond_table) fa cdv A outer s H E).env (cxOf (L2N.CX P w) P w K mg base N_diamond_table "diamond_table" (defScope s_diamond_table) fa cdv A outer s H E).xe := passes_of rfl
  exact (psdsCons (psdSet sc.nd (i := 1) rfl (Or.inl rfl) (pdMakeH (c := 1) h_PairGraph____init__ hr hg tk (pdsCons (pdVar (pv 0)) pdsNil)))
  psdStop)
theorem ok_decide_finite (Fn : Fun K "decide_finite" "decide_finite" s_decide_finite fa fd) (bl : Bl K mg w cm C_RowError C_BadMap C_BadMachine C_OutOfRange C_TooLong C_BadCommand) (h_diamond_table : Has P w K mg base 4 "diamond_table" ["one"] PF.f_diamond_table_k17) : FG P w K mg base 5 fa fd ["one"] (spD K mg 1 PF.f_decide_finite_k17) :=
  FG.body (cl := cm) (k := 4) (N := N_decide_finite) Fn sc_decide_finite fun cdv A outer s H B E hr hg => by
  have sc := sc_decide_finite
  have tk : L2N.Takes (cxOf (L2N.CX P w) P w K mg base N_decide_finite "decide_finite" (defScope s_decide_finite) fa cdv A outer s H E) (fun c d _ H => E c d H) := L2N.takes_of rfl rfl rfl rfl
  have hp : PassesOwn (model P w) (cxOf (L2N.CX P w) P w K mg base N_decide_finite "decide_finite" (defScope s_decide_finite) fa cdv A outer s H E).A (cxOf (L2N.CX P w) P w K mg base N_decide_finite "decide_finite" (defScope s_decide_finite) fa cdv A outer s H E).env (cxOf (L2N.CX P w) P w K mg base N_decide_finite "decide_finite" (defScope s_decide_finite) fa cdv A outer s H E).xe := passes_of rfl
  exact (psdsCons (psdSetZ sc.nd (i := 1) rfl (Or.inl rfl) (pdCallH h_diamond_table hr hg tk (pdsCons (pdVar (pv 0)) pdsNil)))
  psdStop)
theorem ok_Desk____init__ (Fn : Fun K "__init__" "Desk.__init__" s_Desk____init__ fa fd) (bl : Bl K mg w cm C_RowError C_BadMap C_BadMachine C_OutOfRange C_TooLong C_BadCommand) (h_check_map : Has P w K mg base 2 "check_map" ["one"] PF.f_check_map) : FG P w K mg base 3 fa fd ["self", "one"] (spI K mg (cm 4) 1 PF.f_Desk____init__) :=
  FG.bodyI (cl := cm) (c := 4) (k := 2) (N := N_Desk____init__) Fn sc_Desk____init__ 1 rfl fun cdv A outer s H B E p0 hcd hr hg => by
  have sc := sc_Desk____init__
  have tk : L2N.Takes (cxOf (L2N.CX P w) P w K mg base N_Desk____init__ "Desk.__init__" (defScope s_Desk____init__) fa cdv A outer s H E) (fun c d _ H => E c d H) := L2N.takes_of rfl rfl rfl rfl
  have hp : PassesOwn (model P w) (cxOf (L2N.CX P w) P w K mg base N_Desk____init__ "Desk.__init__" (defScope s_Desk____init__) fa cdv A outer s H E).A (cxOf (L2N.CX P w) P w K mg base N_Desk____init__ "Desk.__init__" (defScope s_Desk____init__) fa cdv A outer s H E).env (cxOf (L2N.CX P w) P w K mg base N_Desk____init__ "Desk.__init__" (defScope s_Desk____init__) fa cdv A outer s H E).xe := passes_of rfl
  exact (psdsCons (psdExpr (pdCallH h_check_map hr hg tk (pdsCons (pdVar (pv 1)) pdsNil)))
  (psdsOne (psdFldS (pv 0) (pdTup (pdsCons (pdIx (pdVar (pv 1)) pdInt) (pdsCons (pdIx (pdVar (pv 1)) pdInt) (pdsCons (pdIx (pdVar (pv 1)) pdInt) (pdsCons (pdTyL crList cbLs bl.b_list rfl (pdIx (pdVar (pv 1)) pdInt)) pdsNil))))) bl.c_Desk bl.n_Desk_map)))
theorem ok_require (Fn : Fun K "require" "require" s_require fa fd) (bl : Bl K mg w cm C_RowError C_BadMap C_BadMachine C_OutOfRange C_TooLong C_BadCommand)  : FG P w K mg base 1 fa fd ["holds", "message"] (spD K mg 2 PF.f_require) :=
  FG.body (cl := cm) (k := 0) (N := N_require) Fn sc_require fun cdv A outer s H B E hr hg => by
  have sc := sc_require
  have tk : L2N.Takes (cxOf (L2N.CX P w) P w K mg base N_require "require" (defScope s_require) fa cdv A outer s H E) (fun c d _ H => E c d H) := L2N.takes_of rfl rfl rfl rfl
  have hp : PassesOwn (model P w) (cxOf (L2N.CX P w) P w K mg base N_require "require" (defScope s_require) fa cdv A outer s H E).A (cxOf (L2N.CX P w) P w K mg base N_require "require" (defScope s_require) fa cdv A outer s H E).env (cxOf (L2N.CX P w) P w K mg base N_require "require" (defScope s_require) fa cdv A outer s H E).xe := passes_of rfl
  exact (psdsOne (psdIf (pbNot (pbTruth (pdVar (pv 0))))
  (psdsOne (psdRaiseV rfl tk bl.f_BadCommand (pdVar (pv 1))))
  psdsNil))
theorem ok_Desk__ask (Fn : Fun K "ask" "Desk.ask" s_Desk__ask fa fd) (bl : Bl K mg w cm C_RowError C_BadMap C_BadMachine C_OutOfRange C_TooLong C_BadCommand) (h_require : Has P w K mg base 1 "require" ["holds", "message"] PF.f_require) : FG P w K mg base 2 fa fd ["self", "command"] (spM K mg (cm 4) 1 PF.f_Desk__ask_k17) :=
  FG.bodyM (cl := cm) (c := 4) (k := 1) (N := N_Desk__ask) Fn sc_Desk__ask 1 rfl fun cdv A outer s H B E hcd hr hg => by
  have sc := sc_Desk__ask
  have tk : L2N.Takes (cxOf (L2N.CX P w) P w K mg base N_Desk__ask "Desk.ask" (defScope s_Desk__ask) fa cdv A outer s H E) (fun c d _ H => E c d H) := L2N.takes_of rfl rfl rfl rfl
  have hp : PassesOwn (model P w) (cxOf (L2N.CX P w) P w K mg base N_Desk__ask "Desk.ask" (defScope s_Desk__ask) fa cdv A outer s H E).A (cxOf (L2N.CX P w) P w K mg base N_Desk__ask "Desk.ask" (defScope s_Desk__ask) fa cdv A outer s H E).env (cxOf (L2N.CX P w) P w K mg base N_Desk__ask "Desk.ask" (defScope s_Desk__ask) fa cdv A outer s H E).xe := passes_of rfl
  exact (psdsCons (psdSetZ sc.nd (i := 2) rfl (Or.inl rfl) (pdSplit (pdVar (pv 1)) pdStr))
  (psdsCons (psdExpr (pdCallH h_require hr hg tk (pdsCons (pdB1 (crAll rfl) bl.b_all rfl (pdLc (own := [("word", 3)]) rfl sc.nd (pidL (pdVar (pv 2))) (blkOk_by (own := [("word", 3)]) (by kernel_rfl)) tg_name (keeps_name (by decide)) (fun _ _ _ _ _ => (pg_name (i := 3) sc.nd rfl (by first | exact Or.inl rfl | exact Or.inr rfl))) (fun _ _ _ _ _ => pbsNil) (fun _ _ _ _ _ => (pdGt hr.units (pdB1 crLen bl.b_len rfl (pdVar (pv 3))) pdInt)))) (pdsCons pdStr pdsNil))))
  (psdsCons (psdSetZ sc.nd (i := 3) rfl (Or.inl rfl) (pdIx (pdVar (pv 2)) pdInt))
  (psdsCons (psdExpr (pdCallH h_require hr hg tk (pdsCons (pdKIn bl.k_LEAST (pdVar (pv 3))) (pdsCons pdStr pdsNil))))
  psdStop))))
theorem ok__law_refusal (Fn : Fun K "_law_refusal" "_law_refusal" s__law_refusal fa fd) (bl : Bl K mg w cm C_RowError C_BadMap C_BadMachine C_OutOfRange C_TooLong C_BadCommand) (h_check_map : Has P w K mg base 2 "check_map" ["one"] PF.f_check_map) (h_check_machine : Has P w K mg base 1 "check_machine" ["machine"] PF.f_check_machine) (h_shift_map : Has P w K mg base 1 "shift_map" ["size", "places"] PF.f_shift_map) (h_decide_finite : Has P w K mg base 5 "decide_finite" ["one"] PF.f_decide_finite_k17) (h_Desk____init__ : HasI P w K mg base 3 (cm 4) "Desk" ["self", "one"] 1 PF.f_Desk____init__) (h_Desk__ask : HasM P w K mg base 2 (cm 4) "ask" ["self", "command"] 1 PF.f_Desk__ask_k17) (h__law_one : HasX P w K mg base 2 "_law_one" ["_law_e", "_law_which"] 1 PF.f__law_one) (hH__law_one : HasXH P w K mg base 2 "_law_one" ["_law_e", "_law_which"] 1 PF.f__law_one) : FG P w K mg base 6 fa fd ["_law_draws_here", "_law_way"] (spD K mg 2 PF.f__law_refusal_k17) :=
  FG.body (cl := cm) (k := 5) (N := N__law_refusal) Fn sc__law_refusal fun cdv A outer s H B E hr hg => by
  have sc := sc__law_refusal
  have tk : L2N.Takes (cxOf (L2N.CX P w) P w K mg base N__law_refusal "_law_refusal" (defScope s__law_refusal) fa cdv A outer s H E) (fun c d _ H => E c d H) := L2N.takes_of rfl rfl rfl rfl
  have hp : PassesOwn (model P w) (cxOf (L2N.CX P w) P w K mg base N__law_refusal "_law_refusal" (defScope s__law_refusal) fa cdv A outer s H E).A (cxOf (L2N.CX P w) P w K mg base N__law_refusal "_law_refusal" (defScope s__law_refusal) fa cdv A outer s H E).env (cxOf (L2N.CX P w) P w K mg base N__law_refusal "_law_refusal" (defScope s__law_refusal) fa cdv A outer s H E).xe := passes_of rfl
  exact (psdsCons (psdTryAs (i := 3) rfl rfl sc.nd rfl rfl ⟨rfl, by decide, .inl bl.g_RowError⟩ tk bl.x_RowError
  (fun W pn xe tk hp => (psdsCons (psdIf (pbEq hr.units (pdVar (pv 1)) pdInt)
  (psdsOne (psdExpr (pdCallH h_check_map hr hg tk (pdsCons (pdTup (pdsCons (pdAdd pdInt (pdIx (pdVar (pv 0)) pdInt)) (pdsCons pdInt (pdsCons pdInt (pdsCons (pdList (pdsCons pdInt pdsNil)) pdsNil))))) pdsNil))))
  psdsNil)
  (psdsCons (psdIf (pbEq hr.units (pdVar (pv 1)) pdInt)
  (psdsOne (psdExpr (pdCallH h_check_machine hr hg tk (pdsCons (pdTup (pdsCons pdInt (pdsCons (pdSub (pdNeg pdInt) (pdIx (pdVar (pv 0)) pdInt)) (pdsCons (pdList pdsNil) pdsNil)))) pdsNil))))
  psdsNil)
  (psdsCons (psdIf (pbEq hr.units (pdVar (pv 1)) pdInt)
  (psdsOne (psdExpr (pdCallH h_shift_map hr hg tk (pdsCons pdInt (pdsCons (pdAdd pdInt (pdIx (pdVar (pv 0)) pdInt)) pdsNil)))))
  psdsNil)
  (psdsCons (psdIf (pbEq hr.units (pdVar (pv 1)) pdInt)
  (psdsOne (psdExpr (pdCallH h_decide_finite hr hg tk (pdsCons (pdTup (pdsCons pdInt (pdsCons pdInt (pdsCons pdInt (pdsCons (pdLc (own := [("_law_k", 2)]) rfl sc.nd (pidR1 bl.b_range (pdsCons pdInt pdsNil)) (blkOk_by (own := [("_law_k", 2)]) (by kernel_rfl)) tg_name (keeps_name (by decide)) (fun _ _ _ _ _ => (pg_name (i := 2) sc.nd rfl (by first | exact Or.inl rfl | exact Or.inr rfl))) (fun _ _ _ _ _ => pbsNil) (fun _ _ _ _ _ => (pdAnd (pdTy1 crInt bl.b_int rfl (pdVar (pv 2))) pdInt))) pdsNil))))) pdsNil))))
  psdsNil)
  (psdsCons (psdIf (pbEq hr.units (pdVar (pv 1)) pdInt)
  (psdsOne (psdExpr (pdMethT (pdMakeH (c := 4) h_Desk____init__ hr hg tk (pdsCons (pdTup (pdsCons pdInt (pdsCons pdInt (pdsCons pdInt (pdsCons (pdList (pdsCons pdInt (pdsCons pdInt pdsNil))) pdsNil))))) pdsNil)) bl.c_Desk h_Desk__ask hr hg tk (pdsCons (pdAdd pdStr (pdTy1 crStrI bl.b_str rfl (pdIx (pdVar (pv 0)) pdInt))) pdsNil) _)))
  psdsNil)
  (psdsOne (psdIf (pbEq hr.units (pdVar (pv 1)) pdInt)
  (psdsOne (psdExpr (pdMakeH (c := 4) h_Desk____init__ hr hg tk (pdsCons (pdTup (pdsCons pdInt (pdsCons (pdAdd pdInt (pdIx (pdVar (pv 0)) pdInt)) (pdsCons pdInt (pdsCons (pdList (pdsCons pdInt (pdsCons pdInt pdsNil))) pdsNil))))) pdsNil))))
  psdsNil)))))))) (fun a oe pn cls hz hfl => (psdsOne (psdRet (pdCallXS hz hfl bl.tx (pv 3) hH__law_one hr hg (pdsCons (pdIx (pdList (pdsCons pdInt (pdsCons pdInt (pdsCons pdInt (pdsCons pdInt (pdsCons pdInt (pdsCons pdInt pdsNil))))))) (pdVar (pv 1))) pdsNil))))))
  (psdsOne (psdRet pdBl)))
theorem ok_law (Fn : Fun K "law" "law" s_law fa fd) (bl : Bl K mg w cm C_RowError C_BadMap C_BadMachine C_OutOfRange C_TooLong C_BadCommand) (h__law_draws : Has P w K mg base 1 "_law_draws" ["_law_cell_here", "_law_limits"] PF.f__law_draws) (h__law_cell : Has P w K mg base 1 "_law_cell" ["_law_script", "_law_k"] PF.f__law_cell) (h__law_kinds : HasX P w K mg base 1 "_law_kinds" ["_law_e"] 0 PF.f__law_kinds) (h__law_one : HasX P w K mg base 2 "_law_one" ["_law_e", "_law_which"] 1 PF.f__law_one) (h__law_refusal : Has P w K mg base 6 "_law_refusal" ["_law_draws_here", "_law_way"] PF.f__law_refusal_k17) : FG P w K mg base 7 fa fd ["_law_script"] (spD K mg 1 PF.f_law_k17) :=
  FG.body (cl := cm) (k := 6) (N := N_law) Fn sc_law fun cdv A outer s H B E hr hg => by
  have sc := sc_law
  have tk : L2N.Takes (cxOf (L2N.CX P w) P w K mg base N_law "law" (defScope s_law) fa cdv A outer s H E) (fun c d _ H => E c d H) := L2N.takes_of rfl rfl rfl rfl
  have hp : PassesOwn (model P w) (cxOf (L2N.CX P w) P w K mg base N_law "law" (defScope s_law) fa cdv A outer s H E).A (cxOf (L2N.CX P w) P w K mg base N_law "law" (defScope s_law) fa cdv A outer s H E).env (cxOf (L2N.CX P w) P w K mg base N_law "law" (defScope s_law) fa cdv A outer s H E).xe := passes_of rfl
  exact (psdsCons (psdSetZ sc.nd (i := 1) rfl (Or.inr rfl) (pdCallH h__law_draws hr hg tk (pdsCons (pdCallH h__law_cell hr hg tk (pdsCons (pdVar (pv 0)) (pdsCons pdInt pdsNil))) (pdsCons (pdList (pdsCons pdInt pdsNil)) pdsNil))))
  (psdsCons (psdSetZ sc.nd (i := 2) rfl (Or.inl rfl) (pdAdd pdStr (pdTy1 crStrI bl.b_str rfl (pdIx (pdVar (pv 1)) pdInt))))
  (psdsCons (psdSet sc.nd (i := 3) rfl (Or.inl rfl) (pdLstX (pxsCons (c := 10) bl.mk_BadMap (pdVar (pv 2)) (pxsCons (c := 11) bl.mk_BadMachine (pdVar (pv 2)) (pxsCons (c := 12) bl.mk_OutOfRange (pdVar (pv 2)) (pxsCons (c := 13) bl.mk_TooLong (pdVar (pv 2)) (pxsCons (c := 14) bl.mk_BadCommand (pdVar (pv 2)) pxsNil)))))))
  (psdsCons (psdSet sc.nd (i := 4) rfl (Or.inl rfl) (pdMkX (c := 15) bl.mk_RowError (pdVar (pv 2))))
  (psdsCons (psdIf ((pbOr (pbNot (pbTruth (pdIsV bl.i_ValueError bl.nm (pdVX (pv 4)) (pe_bltn (v := .ty "ValueError") (by rfl) bl.b_ValueError (by rfl) rfl) (fun _ h => h) bl.b_isinstance))) (pbOr (pbTruth (pdB1 (crAny rfl) bl.b_any rfl (pdCallXV bl.nm (pdVX (pv 4)) h__law_kinds hr hg tk pdsNil))) (pbOr1 (pbNe hr.units (pdStrX bl.st (u2 hr.units) (pdVX (pv 4)) bl.b_str) (pdVar (pv 2))))))).pb
  (psdsOne (psdRet pdBl))
  psdsNil)
  (psdsCons (psdForD (D := [5]) hp rfl (pidR1 bl.b_range (pdsCons pdInt pdsNil)) (pgdName sc.nd (i := 5) rfl (Or.inl rfl))
  (psdsOne (psdIf ((pbOr (pbNot (pbTruth (pdCallXV bl.nm (pdXIx (pv 3) (pdVar (pv 5))) h__law_one hr hg tk (pdsCons (pdVar (pv 5)) pdsNil)))) (pbOr1 (pbNe hr.units (pdStrX bl.st (u2 hr.units) (pdXIx (pv 3) (pdVar (pv 5))) bl.b_str) (pdVar (pv 2)))))).pb
  (psdsOne (psdRet pdBl))
  psdsNil)))
  (psdsCons (psdForD (D := [6, 7]) hp rfl (pidL (pdList (pdsCons pdStr (pdsCons pdStr (pdsCons (pdMulT pdStr (pdAdd pdInt (pdIx (pdVar (pv 1)) pdInt))) (pdsCons pdStr pdsNil)))))) (pgdName sc.nd (i := 6) rfl (Or.inr rfl))
  (psdsCons (psdSet sc.nd (i := 7) rfl (Or.inl rfl) (pdLstX (pxsCons (c := 10) bl.mk_BadMap (pdVar (pv 6)) (pxsCons (c := 11) bl.mk_BadMachine (pdVar (pv 6)) (pxsCons (c := 12) bl.mk_OutOfRange (pdVar (pv 6)) (pxsCons (c := 13) bl.mk_TooLong (pdVar (pv 6)) (pxsCons (c := 14) bl.mk_BadCommand (pdVar (pv 6)) (pxsCons (c := 15) bl.mk_RowError (pdVar (pv 6)) pxsNil))))))))
  (psdsOne (psdIf (pbTruth (pdB1 (crAny rfl) bl.b_any rfl (pdLc (own := [("_law_one_here", 8)]) rfl sc.nd (pidX (pv 7)) (blkOk_by (own := [("_law_one_here", 8)]) (by kernel_rfl)) tg_name (keeps_name (by decide)) (fun _ _ _ _ _ => (pg_name (i := 8) sc.nd rfl (by first | exact Or.inl rfl | exact Or.inr rfl))) (fun _ _ _ _ _ => pbsNil) (fun _ _ _ _ _ => (pdNe hr.units (pdStrX bl.st (u2 hr.units) (pdVX (pv 8)) bl.b_str) (pdVar (pv 6)))))))
  (psdsOne (psdRet pdBl))
  psdsNil))))
  (psdsOne (psdRet (pdB1 (crAll rfl) bl.b_all rfl (pdLc (own := [("_law_way", 9)]) rfl sc.nd (pidR1 bl.b_range (pdsCons pdInt pdsNil)) (blkOk_by (own := [("_law_way", 9)]) (by kernel_rfl)) tg_name (keeps_name (by decide)) (fun _ _ _ _ _ => (pg_name (i := 9) sc.nd rfl (by first | exact Or.inl rfl | exact Or.inr rfl))) (fun _ _ _ _ _ => pbsNil) (fun _ _ _ _ _ => (pdCallH h__law_refusal hr hg takes0 (pdsCons (pdVar (pv 1)) (pdsCons (pdVar (pv 9)) pdsNil)))))))))))))))
end
theorem all_mk {l : PySem.W.OpenLaw} {w : World} {K : PySem.W.Frag} {h : Heap} {mg : Str → Option Value} {fa : Addr} (X : K.In h) (G : h.Ns mainGlobals mg) (hfa : mg "law" = some (.ref fa))
    {K_PairGraph K_Desk : Addr}
    {oc0 kV0 dc0 pm0 cd0 ct0 : Value} {od0 an0 : Option Addr} {sl0 : Array (Option Value)} {f0 : Addr}
    {oc1 kV1 dc1 pm1 cd1 ct1 : Value} {od1 an1 : Option Addr} {sl1 : Array (Option Value)} {f1 : Addr}
    {oc2 kV2 dc2 pm2 cd2 ct2 : Value} {od2 an2 : Option Addr} {sl2 : Array (Option Value)} {f2 : Addr}
    {oc3 kV3 dc3 pm3 cd3 ct3 : Value} {od3 an3 : Option Addr} {sl3 : Array (Option Value)} {f3 : Addr}
    {oc4 kV4 dc4 pm4 cd4 ct4 : Value} {od4 an4 : Option Addr} {sl4 : Array (Option Value)} {f4 : Addr}
    {oc5 kV5 dc5 pm5 cd5 ct5 : Value} {od5 an5 : Option Addr} {sl5 : Array (Option Value)} {f5 : Addr}
    {oc6 kV6 dc6 pm6 cd6 ct6 : Value} {od6 an6 : Option Addr} {sl6 : Array (Option Value)} {f6 : Addr}
    {oc7 kV7 dc7 pm7 cd7 ct7 : Value} {od7 an7 : Option Addr} {sl7 : Array (Option Value)} {f7 : Addr}
    {oc8 kV8 dc8 pm8 cd8 ct8 : Value} {od8 an8 : Option Addr} {sl8 : Array (Option Value)} {f8 : Addr}
    {oc9 kV9 dc9 pm9 cd9 ct9 : Value} {od9 an9 : Option Addr} {sl9 : Array (Option Value)} {f9 : Addr}
    {oc10 kV10 dc10 pm10 cd10 ct10 : Value} {od10 an10 : Option Addr} {sl10 : Array (Option Value)} {f10 : Addr}
    {oc11 kV11 dc11 pm11 cd11 ct11 : Value} {od11 an11 : Option Addr} {sl11 : Array (Option Value)} {f11 : Addr}
    {oc12 kV12 dc12 pm12 cd12 ct12 : Value} {od12 an12 : Option Addr} {sl12 : Array (Option Value)} {f12 : Addr}
    {oc13 kV13 dc13 pm13 cd13 ct13 : Value} {od13 an13 : Option Addr} {sl13 : Array (Option Value)} {f13 : Addr}
    {oc14 kV14 dc14 pm14 cd14 ct14 : Value} {od14 an14 : Option Addr} {sl14 : Array (Option Value)} {f14 : Addr}
    {oc15 kV15 dc15 pm15 cd15 ct15 : Value} {od15 an15 : Option Addr} {sl15 : Array (Option Value)} {f15 : Addr}
    {oc16 kV16 dc16 pm16 cd16 ct16 : Value} {od16 an16 : Option Addr} {sl16 : Array (Option Value)} {f16 : Addr}
    {t_MAX_OFFSET : Tok}
    {t_MAX_TABLE : Tok}
    {t_MAX_STATES : Tok}
    {t_MOST_STATES : Tok}
    {C_RowError C_BadMap C_BadMachine C_OutOfRange C_TooLong C_BadCommand : Addr}
    {D_LEAST : Addr} {es_LEAST : Array DictEntry} {n_LEAST : Nat}
    (a0 : PySem.W.nsIn K mainGlobals "_law_draws" = some (some (.ref f0)))
    (l0 : K.lookup f0 = some ⟨oc0, od0, .func (PySem.W.fnOf "_law_draws" "_law_draws" (defArgs s__law_draws) (defBody s__law_draws) (defScope s__law_draws) .none kV0 dc0 pm0 an0 cd0 ct0), sl0⟩) (c0 : PySem.W.codeIn K cd0 "_law_draws" = true) (k0 : PySem.W.keepIn K (.ref f0) = true)
    (a1 : PySem.W.nsIn K mainGlobals "_law_cell" = some (some (.ref f1)))
    (l1 : K.lookup f1 = some ⟨oc1, od1, .func (PySem.W.fnOf "_law_cell" "_law_cell" (defArgs s__law_cell) (defBody s__law_cell) (defScope s__law_cell) .none kV1 dc1 pm1 an1 cd1 ct1), sl1⟩) (c1 : PySem.W.codeIn K cd1 "_law_cell" = true) (k1 : PySem.W.keepIn K (.ref f1) = true)
    (a2 : PySem.W.nsIn K mainGlobals "_law_kinds" = some (some (.ref f2)))
    (l2 : K.lookup f2 = some ⟨oc2, od2, .func (PySem.W.fnOf "_law_kinds" "_law_kinds" (defArgs s__law_kinds) (defBody s__law_kinds) (defScope s__law_kinds) .none kV2 dc2 pm2 an2 cd2 ct2), sl2⟩) (c2 : PySem.W.codeIn K cd2 "_law_kinds" = true) (k2 : PySem.W.keepIn K (.ref f2) = true)
    (a3 : PySem.W.nsIn K mainGlobals "_law_one" = some (some (.ref f3)))
    (l3 : K.lookup f3 = some ⟨oc3, od3, .func (PySem.W.fnOf "_law_one" "_law_one" (defArgs s__law_one) (defBody s__law_one) (defScope s__law_one) .none kV3 dc3 pm3 an3 cd3 ct3), sl3⟩) (c3 : PySem.W.codeIn K cd3 "_law_one" = true) (k3 : PySem.W.keepIn K (.ref f3) = true)
    (a4 : PySem.W.nsIn K mainGlobals "table_size" = some (some (.ref f4)))
    (l4 : K.lookup f4 = some ⟨oc4, od4, .func (PySem.W.fnOf "table_size" "table_size" (defArgs s_table_size) (defBody s_table_size) (defScope s_table_size) .none kV4 dc4 pm4 an4 cd4 ct4), sl4⟩) (c4 : PySem.W.codeIn K cd4 "table_size" = true) (k4 : PySem.W.keepIn K (.ref f4) = true)
    (a5 : PySem.W.nsIn K mainGlobals "check_map" = some (some (.ref f5)))
    (l5 : K.lookup f5 = some ⟨oc5, od5, .func (PySem.W.fnOf "check_map" "check_map" (defArgs s_check_map) (defBody s_check_map) (defScope s_check_map) .none kV5 dc5 pm5 an5 cd5 ct5), sl5⟩) (c5 : PySem.W.codeIn K cd5 "check_map" = true) (k5 : PySem.W.keepIn K (.ref f5) = true)
    (a6 : PySem.W.nsIn K mainGlobals "check_machine" = some (some (.ref f6)))
    (l6 : K.lookup f6 = some ⟨oc6, od6, .func (PySem.W.fnOf "check_machine" "check_machine" (defArgs s_check_machine) (defBody s_check_machine) (defScope s_check_machine) .none kV6 dc6 pm6 an6 cd6 ct6), sl6⟩) (c6 : PySem.W.codeIn K cd6 "check_machine" = true) (k6 : PySem.W.keepIn K (.ref f6) = true)
    (a7 : PySem.W.nsIn K mainGlobals "shift_map" = some (some (.ref f7)))
    (l7 : K.lookup f7 = some ⟨oc7, od7, .func (PySem.W.fnOf "shift_map" "shift_map" (defArgs s_shift_map) (defBody s_shift_map) (defScope s_shift_map) .none kV7 dc7 pm7 an7 cd7 ct7), sl7⟩) (c7 : PySem.W.codeIn K cd7 "shift_map" = true) (k7 : PySem.W.keepIn K (.ref f7) = true)
    (a8 : PySem.W.nsIn K mainGlobals "count_words" = some (some (.ref f8)))
    (l8 : K.lookup f8 = some ⟨oc8, od8, .func (PySem.W.fnOf "count_words" "count_words" (defArgs s_count_words) (defBody s_count_words) (defScope s_count_words) .none kV8 dc8 pm8 an8 cd8 ct8), sl8⟩) (c8 : PySem.W.codeIn K cd8 "count_words" = true) (k8 : PySem.W.keepIn K (.ref f8) = true)
    (a9 : PySem.W.findIn K (.ref K_PairGraph) "__init__" = some (some (.ref f9))) (i9 : PySem.W.isFn K (.ref f9) = true)
    (l9 : K.lookup f9 = some ⟨oc9, od9, .func (PySem.W.fnOf "__init__" "PairGraph.__init__" (defArgs s_PairGraph____init__) (defBody s_PairGraph____init__) (defScope s_PairGraph____init__) .none kV9 dc9 pm9 an9 cd9 ct9), sl9⟩) (c9 : PySem.W.codeIn K cd9 "PairGraph.__init__" = true) (k9 : PySem.W.keepIn K (.ref f9) = true)
    (a10 : PySem.W.nsIn K mainGlobals "diamond_table" = some (some (.ref f10)))
    (l10 : K.lookup f10 = some ⟨oc10, od10, .func (PySem.W.fnOf "diamond_table" "diamond_table" (defArgs s_diamond_table) (defBody s_diamond_table) (defScope s_diamond_table) .none kV10 dc10 pm10 an10 cd10 ct10), sl10⟩) (c10 : PySem.W.codeIn K cd10 "diamond_table" = true) (k10 : PySem.W.keepIn K (.ref f10) = true)
    (a11 : PySem.W.nsIn K mainGlobals "decide_finite" = some (some (.ref f11)))
    (l11 : K.lookup f11 = some ⟨oc11, od11, .func (PySem.W.fnOf "decide_finite" "decide_finite" (defArgs s_decide_finite) (defBody s_decide_finite) (defScope s_decide_finite) .none kV11 dc11 pm11 an11 cd11 ct11), sl11⟩) (c11 : PySem.W.codeIn K cd11 "decide_finite" = true) (k11 : PySem.W.keepIn K (.ref f11) = true)
    (a12 : PySem.W.findIn K (.ref K_Desk) "__init__" = some (some (.ref f12))) (i12 : PySem.W.isFn K (.ref f12) = true)
    (l12 : K.lookup f12 = some ⟨oc12, od12, .func (PySem.W.fnOf "__init__" "Desk.__init__" (defArgs s_Desk____init__) (defBody s_Desk____init__) (defScope s_Desk____init__) .none kV12 dc12 pm12 an12 cd12 ct12), sl12⟩) (c12 : PySem.W.codeIn K cd12 "Desk.__init__" = true) (k12 : PySem.W.keepIn K (.ref f12) = true)
    (a13 : PySem.W.nsIn K mainGlobals "require" = some (some (.ref f13)))
    (l13 : K.lookup f13 = some ⟨oc13, od13, .func (PySem.W.fnOf "require" "require" (defArgs s_require) (defBody s_require) (defScope s_require) .none kV13 dc13 pm13 an13 cd13 ct13), sl13⟩) (c13 : PySem.W.codeIn K cd13 "require" = true) (k13 : PySem.W.keepIn K (.ref f13) = true)
    (a14 : PySem.W.findIn K (.ref K_Desk) "ask" = some (some (.ref f14))) (i14 : PySem.W.isFn K (.ref f14) = true)
    (l14 : K.lookup f14 = some ⟨oc14, od14, .func (PySem.W.fnOf "ask" "Desk.ask" (defArgs s_Desk__ask) (defBody s_Desk__ask) (defScope s_Desk__ask) .none kV14 dc14 pm14 an14 cd14 ct14), sl14⟩) (c14 : PySem.W.codeIn K cd14 "Desk.ask" = true) (k14 : PySem.W.keepIn K (.ref f14) = true)
    (a15 : PySem.W.nsIn K mainGlobals "_law_refusal" = some (some (.ref f15)))
    (l15 : K.lookup f15 = some ⟨oc15, od15, .func (PySem.W.fnOf "_law_refusal" "_law_refusal" (defArgs s__law_refusal) (defBody s__law_refusal) (defScope s__law_refusal) .none kV15 dc15 pm15 an15 cd15 ct15), sl15⟩) (c15 : PySem.W.codeIn K cd15 "_law_refusal" = true) (k15 : PySem.W.keepIn K (.ref f15) = true)
    (a16 : PySem.W.nsIn K mainGlobals "law" = some (some (.ref f16)))
    (l16 : K.lookup f16 = some ⟨oc16, od16, .func (PySem.W.fnOf "law" "law" (defArgs s_law) (defBody s_law) (defScope s_law) .none kV16 dc16 pm16 an16 cd16 ct16), sl16⟩) (c16 : PySem.W.codeIn K cd16 "law" = true) (k16 : PySem.W.keepIn K (.ref f16) = true)
    (z_str : PySem.W.nsIn K mainGlobals "str" = some none)
    (z_ValueError : PySem.W.nsIn K mainGlobals "ValueError" = some none)
    (z_isinstance : PySem.W.nsIn K mainGlobals "isinstance" = some none)
    (z_any : PySem.W.nsIn K mainGlobals "any" = some none)
    (z_range : PySem.W.nsIn K mainGlobals "range" = some none)
    (z_all : PySem.W.nsIn K mainGlobals "all" = some none)
    (z_int : PySem.W.nsIn K mainGlobals "int" = some none)
    (z_abs : PySem.W.nsIn K mainGlobals "abs" = some none)
    (z_len : PySem.W.nsIn K mainGlobals "len" = some none)
    (z_list : PySem.W.nsIn K mainGlobals "list" = some none)
    (v_MAX_OFFSET : PySem.W.nsIn K mainGlobals "MAX_OFFSET" = some (some (.int 100 t_MAX_OFFSET)))
    (v_MAX_TABLE : PySem.W.nsIn K mainGlobals "MAX_TABLE" = some (some (.int 4096 t_MAX_TABLE)))
    (v_MAX_STATES : PySem.W.nsIn K mainGlobals "MAX_STATES" = some (some (.int 2048 t_MAX_STATES)))
    (v_MOST_STATES : PySem.W.nsIn K mainGlobals "MOST_STATES" = some (some (.int 150 t_MOST_STATES)))
    (gk_PairGraph : PySem.W.nsIn K mainGlobals "PairGraph" = some (some (.ref K_PairGraph)))
    (pg_PairGraph : PySem.W.plainGet K K_PairGraph Str.empty = true)
    (hd_PairGraph : PySem.W.hasDictIn K K_PairGraph = true)
    (po_PairGraph : PySem.W.plainOver K K_PairGraph = true)
    (sa_PairGraph : PySem.W.findIn K (.ref K_PairGraph) "__setattr__" = some (some (.builtin "object.__setattr__")))
    (mk_PairGraph : PySem.W.makesIn K K_PairGraph = true)
    (kc_PairGraph : PySem.W.keepIn K (.ref K_PairGraph) = true)
    (gk_Desk : PySem.W.nsIn K mainGlobals "Desk" = some (some (.ref K_Desk)))
    (pg_Desk : PySem.W.plainGet K K_Desk Str.empty = true)
    (hd_Desk : PySem.W.hasDictIn K K_Desk = true)
    (po_Desk : PySem.W.plainOver K K_Desk = true)
    (sa_Desk : PySem.W.findIn K (.ref K_Desk) "__setattr__" = some (some (.builtin "object.__setattr__")))
    (mk_Desk : PySem.W.makesIn K K_Desk = true)
    (kc_Desk : PySem.W.keepIn K (.ref K_Desk) = true)
    (nf_PairGraph_table : PySem.W.findIn K (.ref K_PairGraph) "table" = some none)
    (nf_PairGraph_width : PySem.W.findIn K (.ref K_PairGraph) "width" = some none)
    (nf_PairGraph_size : PySem.W.findIn K (.ref K_PairGraph) "size" = some none)
    (nf_PairGraph_states : PySem.W.findIn K (.ref K_PairGraph) "states" = some none)
    (nf_Desk_map : PySem.W.findIn K (.ref K_Desk) "map" = some none)
    (ga_LEAST : PySem.W.nsIn K mainGlobals "LEAST" = some (some (.ref D_LEAST)))
    (la_LEAST : K.lookup D_LEAST = some ⟨.type "dict", none, .dict es_LEAST n_LEAST, #[]⟩)
    (li_LEAST : PySem.W.KeysLit w.params es_LEAST.toList)
    (lo_LEAST : (D_LEAST == sysModules) = false)
    (en_LEAST : Ent es_LEAST.toList [("reach", 0), ("finite", 0), ("reverse", 0), ("sums", 1), ("image", 1), ("after", 2), ("power", 1)])
    (g_RowError : PySem.W.nsIn K mainGlobals "RowError" = some (some (.ref C_RowError)))
    (g_BadMap : PySem.W.nsIn K mainGlobals "BadMap" = some (some (.ref C_BadMap)))
    (g_BadMachine : PySem.W.nsIn K mainGlobals "BadMachine" = some (some (.ref C_BadMachine)))
    (g_OutOfRange : PySem.W.nsIn K mainGlobals "OutOfRange" = some (some (.ref C_OutOfRange)))
    (g_TooLong : PySem.W.nsIn K mainGlobals "TooLong" = some (some (.ref C_TooLong)))
    (g_BadCommand : PySem.W.nsIn K mainGlobals "BadCommand" = some (some (.ref C_BadCommand)))
    (s_RowError : PySem.W.subIn K (.ref C_RowError) (.type "BaseException") = some true)
    (t_RowError : PySem.W.typeIn K (.ref C_RowError) = some (.type "type"))
    (d_RowError : PySem.W.hasDictIn K C_RowError = true)
    (s_BadMap : PySem.W.subIn K (.ref C_BadMap) (.type "BaseException") = some true)
    (t_BadMap : PySem.W.typeIn K (.ref C_BadMap) = some (.type "type"))
    (d_BadMap : PySem.W.hasDictIn K C_BadMap = true)
    (s_BadMachine : PySem.W.subIn K (.ref C_BadMachine) (.type "BaseException") = some true)
    (t_BadMachine : PySem.W.typeIn K (.ref C_BadMachine) = some (.type "type"))
    (d_BadMachine : PySem.W.hasDictIn K C_BadMachine = true)
    (s_OutOfRange : PySem.W.subIn K (.ref C_OutOfRange) (.type "BaseException") = some true)
    (t_OutOfRange : PySem.W.typeIn K (.ref C_OutOfRange) = some (.type "type"))
    (d_OutOfRange : PySem.W.hasDictIn K C_OutOfRange = true)
    (s_TooLong : PySem.W.subIn K (.ref C_TooLong) (.type "BaseException") = some true)
    (t_TooLong : PySem.W.typeIn K (.ref C_TooLong) = some (.type "type"))
    (d_TooLong : PySem.W.hasDictIn K C_TooLong = true)
    (s_BadCommand : PySem.W.subIn K (.ref C_BadCommand) (.type "BaseException") = some true)
    (t_BadCommand : PySem.W.typeIn K (.ref C_BadCommand) = some (.type "type"))
    (d_BadCommand : PySem.W.hasDictIn K C_BadCommand = true)
    (q_RowError : PySem.W.excIn K C_RowError [.type "ValueError", .type "Exception", .type "BaseException", .type "object"] "ValueError.__new__" = true)
    (k_RowError : PySem.W.keepIn K (.ref C_RowError) = true)
    (str_RowError : PySem.W.findIn K (.ref C_RowError) "__str__" = some (some (.builtin "BaseException.__str__")))
    (str_BadMap : PySem.W.findIn K (.ref C_BadMap) "__str__" = some (some (.builtin "BaseException.__str__")))
    (str_BadMachine : PySem.W.findIn K (.ref C_BadMachine) "__str__" = some (some (.builtin "BaseException.__str__")))
    (str_OutOfRange : PySem.W.findIn K (.ref C_OutOfRange) "__str__" = some (some (.builtin "BaseException.__str__")))
    (str_TooLong : PySem.W.findIn K (.ref C_TooLong) "__str__" = some (some (.builtin "BaseException.__str__")))
    (str_BadCommand : PySem.W.findIn K (.ref C_BadCommand) "__str__" = some (some (.builtin "BaseException.__str__")))
    (q_BadMap : PySem.W.excIn K C_BadMap [.type "ValueError", .type "Exception", .type "BaseException", .type "object"] "ValueError.__new__" = true)
    (k_BadMap : PySem.W.keepIn K (.ref C_BadMap) = true)
    (q_BadMachine : PySem.W.excIn K C_BadMachine [.type "ValueError", .type "Exception", .type "BaseException", .type "object"] "ValueError.__new__" = true)
    (k_BadMachine : PySem.W.keepIn K (.ref C_BadMachine) = true)
    (q_OutOfRange : PySem.W.excIn K C_OutOfRange [.type "ValueError", .type "Exception", .type "BaseException", .type "object"] "ValueError.__new__" = true)
    (k_OutOfRange : PySem.W.keepIn K (.ref C_OutOfRange) = true)
    (q_TooLong : PySem.W.excIn K C_TooLong [.type "ValueError", .type "Exception", .type "BaseException", .type "object"] "ValueError.__new__" = true)
    (k_TooLong : PySem.W.keepIn K (.ref C_TooLong) = true)
    (q_BadCommand : PySem.W.excIn K C_BadCommand [.type "ValueError", .type "Exception", .type "BaseException", .type "object"] "ValueError.__new__" = true)
    (k_BadCommand : PySem.W.keepIn K (.ref C_BadCommand) = true)
    (hn : PySem.W.specialIn K (.builtin "object.__class__") "__get__" = some (some (.builtin "getset_descriptor.__get__")))
    (ht : PySem.W.takesIn K (.builtin "object.__class__") = some true)
    (e1_RowError : PySem.W.findIn K (.ref C_RowError) "__getattribute__" = some (some (.builtin "BaseException.__getattribute__")))
    (e2_RowError : PySem.W.findIn K (.ref C_RowError) "__getattr__" = some none)
    (e3_RowError : PySem.W.findIn K (.ref C_RowError) "__class__" = some (some (.builtin "object.__class__")))
    (e4_RowError : PySem.W.mroIn K C_RowError (.type "object") = some true)
    (e1_BadMap : PySem.W.findIn K (.ref C_BadMap) "__getattribute__" = some (some (.builtin "BaseException.__getattribute__")))
    (e2_BadMap : PySem.W.findIn K (.ref C_BadMap) "__getattr__" = some none)
    (e3_BadMap : PySem.W.findIn K (.ref C_BadMap) "__class__" = some (some (.builtin "object.__class__")))
    (e4_BadMap : PySem.W.mroIn K C_BadMap (.type "object") = some true)
    (e1_BadMachine : PySem.W.findIn K (.ref C_BadMachine) "__getattribute__" = some (some (.builtin "BaseException.__getattribute__")))
    (e2_BadMachine : PySem.W.findIn K (.ref C_BadMachine) "__getattr__" = some none)
    (e3_BadMachine : PySem.W.findIn K (.ref C_BadMachine) "__class__" = some (some (.builtin "object.__class__")))
    (e4_BadMachine : PySem.W.mroIn K C_BadMachine (.type "object") = some true)
    (e1_OutOfRange : PySem.W.findIn K (.ref C_OutOfRange) "__getattribute__" = some (some (.builtin "BaseException.__getattribute__")))
    (e2_OutOfRange : PySem.W.findIn K (.ref C_OutOfRange) "__getattr__" = some none)
    (e3_OutOfRange : PySem.W.findIn K (.ref C_OutOfRange) "__class__" = some (some (.builtin "object.__class__")))
    (e4_OutOfRange : PySem.W.mroIn K C_OutOfRange (.type "object") = some true)
    (e1_TooLong : PySem.W.findIn K (.ref C_TooLong) "__getattribute__" = some (some (.builtin "BaseException.__getattribute__")))
    (e2_TooLong : PySem.W.findIn K (.ref C_TooLong) "__getattr__" = some none)
    (e3_TooLong : PySem.W.findIn K (.ref C_TooLong) "__class__" = some (some (.builtin "object.__class__")))
    (e4_TooLong : PySem.W.mroIn K C_TooLong (.type "object") = some true)
    (e1_BadCommand : PySem.W.findIn K (.ref C_BadCommand) "__getattribute__" = some (some (.builtin "BaseException.__getattribute__")))
    (e2_BadCommand : PySem.W.findIn K (.ref C_BadCommand) "__getattr__" = some none)
    (e3_BadCommand : PySem.W.findIn K (.ref C_BadCommand) "__class__" = some (some (.builtin "object.__class__")))
    (e4_BadCommand : PySem.W.mroIn K C_BadCommand (.type "object") = some true)
    (m_RowError_RowError : PySem.W.subIn K (.ref C_RowError) (.ref C_RowError) = some true)
    (m_BadMap_RowError : PySem.W.subIn K (.ref C_BadMap) (.ref C_RowError) = some true)
    (m_BadMachine_RowError : PySem.W.subIn K (.ref C_BadMachine) (.ref C_RowError) = some true)
    (m_OutOfRange_RowError : PySem.W.subIn K (.ref C_OutOfRange) (.ref C_RowError) = some true)
    (m_TooLong_RowError : PySem.W.subIn K (.ref C_TooLong) (.ref C_RowError) = some true)
    (m_BadCommand_RowError : PySem.W.subIn K (.ref C_BadCommand) (.ref C_RowError) = some true)
    (n_RowError_ValueError : PySem.W.subIn K (.ref C_RowError) (.type "ValueError") = some true)
    (n_BadMap_ValueError : PySem.W.subIn K (.ref C_BadMap) (.type "ValueError") = some true)
    (n_BadMachine_ValueError : PySem.W.subIn K (.ref C_BadMachine) (.type "ValueError") = some true)
    (n_OutOfRange_ValueError : PySem.W.subIn K (.ref C_OutOfRange) (.type "ValueError") = some true)
    (n_TooLong_ValueError : PySem.W.subIn K (.ref C_TooLong) (.type "ValueError") = some true)
    (n_BadCommand_ValueError : PySem.W.subIn K (.ref C_BadCommand) (.type "ValueError") = some true)
    (o_BadCommand : PySem.W.subIn K (.ref C_BadCommand) (.ref C_BadCommand) = some true)
    (n_RowError_BadCommand : PySem.W.subIn K (.ref C_RowError) (.ref C_BadCommand) = some false)
    (n_BadMap_BadCommand : PySem.W.subIn K (.ref C_BadMap) (.ref C_BadCommand) = some false)
    (n_BadMachine_BadCommand : PySem.W.subIn K (.ref C_BadMachine) (.ref C_BadCommand) = some false)
    (n_OutOfRange_BadCommand : PySem.W.subIn K (.ref C_OutOfRange) (.ref C_BadCommand) = some false)
    (n_TooLong_BadCommand : PySem.W.subIn K (.ref C_TooLong) (.ref C_BadCommand) = some false)
    (n_BadCommand_BadCommand : PySem.W.subIn K (.ref C_BadCommand) (.ref C_BadCommand) = some true)
    (o_TooLong : PySem.W.subIn K (.ref C_TooLong) (.ref C_TooLong) = some true)
    (n_RowError_TooLong : PySem.W.subIn K (.ref C_RowError) (.ref C_TooLong) = some false)
    (n_BadMap_TooLong : PySem.W.subIn K (.ref C_BadMap) (.ref C_TooLong) = some false)
    (n_BadMachine_TooLong : PySem.W.subIn K (.ref C_BadMachine) (.ref C_TooLong) = some false)
    (n_OutOfRange_TooLong : PySem.W.subIn K (.ref C_OutOfRange) (.ref C_TooLong) = some false)
    (n_TooLong_TooLong : PySem.W.subIn K (.ref C_TooLong) (.ref C_TooLong) = some true)
    (n_BadCommand_TooLong : PySem.W.subIn K (.ref C_BadCommand) (.ref C_TooLong) = some false)
    (o_OutOfRange : PySem.W.subIn K (.ref C_OutOfRange) (.ref C_OutOfRange) = some true)
    (n_RowError_OutOfRange : PySem.W.subIn K (.ref C_RowError) (.ref C_OutOfRange) = some false)
    (n_BadMap_OutOfRange : PySem.W.subIn K (.ref C_BadMap) (.ref C_OutOfRange) = some false)
    (n_BadMachine_OutOfRange : PySem.W.subIn K (.ref C_BadMachine) (.ref C_OutOfRange) = some false)
    (n_OutOfRange_OutOfRange : PySem.W.subIn K (.ref C_OutOfRange) (.ref C_OutOfRange) = some true)
    (n_TooLong_OutOfRange : PySem.W.subIn K (.ref C_TooLong) (.ref C_OutOfRange) = some false)
    (n_BadCommand_OutOfRange : PySem.W.subIn K (.ref C_BadCommand) (.ref C_OutOfRange) = some false)
    (o_BadMachine : PySem.W.subIn K (.ref C_BadMachine) (.ref C_BadMachine) = some true)
    (n_RowError_BadMachine : PySem.W.subIn K (.ref C_RowError) (.ref C_BadMachine) = some false)
    (n_BadMap_BadMachine : PySem.W.subIn K (.ref C_BadMap) (.ref C_BadMachine) = some false)
    (n_BadMachine_BadMachine : PySem.W.subIn K (.ref C_BadMachine) (.ref C_BadMachine) = some true)
    (n_OutOfRange_BadMachine : PySem.W.subIn K (.ref C_OutOfRange) (.ref C_BadMachine) = some false)
    (n_TooLong_BadMachine : PySem.W.subIn K (.ref C_TooLong) (.ref C_BadMachine) = some false)
    (n_BadCommand_BadMachine : PySem.W.subIn K (.ref C_BadCommand) (.ref C_BadMachine) = some false)
    (o_BadMap : PySem.W.subIn K (.ref C_BadMap) (.ref C_BadMap) = some true)
    (n_RowError_BadMap : PySem.W.subIn K (.ref C_RowError) (.ref C_BadMap) = some false)
    (n_BadMap_BadMap : PySem.W.subIn K (.ref C_BadMap) (.ref C_BadMap) = some true)
    (n_BadMachine_BadMap : PySem.W.subIn K (.ref C_BadMachine) (.ref C_BadMap) = some false)
    (n_OutOfRange_BadMap : PySem.W.subIn K (.ref C_OutOfRange) (.ref C_BadMap) = some false)
    (n_TooLong_BadMap : PySem.W.subIn K (.ref C_TooLong) (.ref C_BadMap) = some false)
    (n_BadCommand_BadMap : PySem.W.subIn K (.ref C_BadCommand) (.ref C_BadMap) = some false)
    (o_RowError : PySem.W.subIn K (.ref C_RowError) (.ref C_RowError) = some true)
    (n_RowError_RowError : PySem.W.subIn K (.ref C_RowError) (.ref C_RowError) = some true)
    (n_BadMap_RowError : PySem.W.subIn K (.ref C_BadMap) (.ref C_RowError) = some true)
    (n_BadMachine_RowError : PySem.W.subIn K (.ref C_BadMachine) (.ref C_RowError) = some true)
    (n_OutOfRange_RowError : PySem.W.subIn K (.ref C_OutOfRange) (.ref C_RowError) = some true)
    (n_TooLong_RowError : PySem.W.subIn K (.ref C_TooLong) (.ref C_RowError) = some true)
    (n_BadCommand_RowError : PySem.W.subIn K (.ref C_BadCommand) (.ref C_RowError) = some true)
    : ∃ fd : FuncData, (∀ (s : Shared) (u : Value), BindsTo s fd ⟨[u], []⟩ [("_law_script", u)]) ∧ ∀ base : Heap, K.In base → base.Ns mainGlobals mg → FG l.prog w K mg base 7 fa fd ["_law_script"] (spD K mg 1 PF.f_law_k17) := by
  have e := hfa.symm.trans (PySem.W.mg_of X G a16)
  cases e
  let cm : Nat → Addr := fun i => match i with | 1 => K_PairGraph | 4 => K_Desk | 15 => C_RowError | 10 => C_BadMap | 11 => C_BadMachine | 12 => C_OutOfRange | 13 => C_TooLong | 14 => C_BadCommand | _ => 0
  have bl : Bl K mg w cm C_RowError C_BadMap C_BadMachine C_OutOfRange C_TooLong C_BadCommand := ⟨PySem.W.mg_none_of X G z_str, PySem.W.mg_none_of X G z_ValueError, PySem.W.mg_none_of X G z_isinstance, PySem.W.mg_none_of X G z_any, PySem.W.mg_none_of X G z_range, PySem.W.mg_none_of X G z_all, PySem.W.mg_none_of X G z_int, PySem.W.mg_none_of X G z_abs, PySem.W.mg_none_of X G z_len, PySem.W.mg_none_of X G z_list, ⟨_, PySem.W.mg_of X G v_MAX_OFFSET⟩, ⟨_, PySem.W.mg_of X G v_MAX_TABLE⟩, ⟨_, PySem.W.mg_of X G v_MAX_STATES⟩, ⟨_, PySem.W.mg_of X G v_MOST_STATES⟩, PySem.W.mg_of X G g_RowError, PySem.W.mg_of X G g_BadMap, PySem.W.mg_of X G g_BadMachine, PySem.W.mg_of X G g_OutOfRange, PySem.W.mg_of X G g_TooLong, PySem.W.mg_of X G g_BadCommand, ⟨C_BadMap, PySem.W.mg_of X G g_BadMap, q_BadMap, k_BadMap, s_BadMap, t_BadMap⟩, ⟨C_BadMachine, PySem.W.mg_of X G g_BadMachine, q_BadMachine, k_BadMachine, s_BadMachine, t_BadMachine⟩, ⟨C_OutOfRange, PySem.W.mg_of X G g_OutOfRange, q_OutOfRange, k_OutOfRange, s_OutOfRange, t_OutOfRange⟩, ⟨C_TooLong, PySem.W.mg_of X G g_TooLong, q_TooLong, k_TooLong, s_TooLong, t_TooLong⟩, ⟨C_BadCommand, PySem.W.mg_of X G g_BadCommand, q_BadCommand, k_BadCommand, s_BadCommand, t_BadCommand⟩, (.cons (PySem.W.mg_of X G g_RowError) (PySem.W.exm_ref s_RowError d_RowError t_RowError m_RowError_RowError) (.cons (PySem.W.mg_of X G g_BadMap) (PySem.W.exm_ref s_RowError d_RowError t_RowError m_BadMap_RowError) (.cons (PySem.W.mg_of X G g_BadMachine) (PySem.W.exm_ref s_RowError d_RowError t_RowError m_BadMachine_RowError) (.cons (PySem.W.mg_of X G g_OutOfRange) (PySem.W.exm_ref s_RowError d_RowError t_RowError m_OutOfRange_RowError) (.cons (PySem.W.mg_of X G g_TooLong) (PySem.W.exm_ref s_RowError d_RowError t_RowError m_TooLong_RowError) (.cons (PySem.W.mg_of X G g_BadCommand) (PySem.W.exm_ref s_RowError d_RowError t_RowError m_BadCommand_RowError) .nil)))))), (.cons (PySem.W.mg_of X G g_RowError) ⟨e1_RowError, e2_RowError, s_RowError, d_RowError, e3_RowError, hn, ht, e4_RowError⟩ (kit_ty n_RowError_ValueError (by decide +kernel)) (.cons (PySem.W.mg_of X G g_BadMap) ⟨e1_BadMap, e2_BadMap, s_BadMap, d_BadMap, e3_BadMap, hn, ht, e4_BadMap⟩ (kit_ty n_BadMap_ValueError (by decide +kernel)) (.cons (PySem.W.mg_of X G g_BadMachine) ⟨e1_BadMachine, e2_BadMachine, s_BadMachine, d_BadMachine, e3_BadMachine, hn, ht, e4_BadMachine⟩ (kit_ty n_BadMachine_ValueError (by decide +kernel)) (.cons (PySem.W.mg_of X G g_OutOfRange) ⟨e1_OutOfRange, e2_OutOfRange, s_OutOfRange, d_OutOfRange, e3_OutOfRange, hn, ht, e4_OutOfRange⟩ (kit_ty n_OutOfRange_ValueError (by decide +kernel)) (.cons (PySem.W.mg_of X G g_TooLong) ⟨e1_TooLong, e2_TooLong, s_TooLong, d_TooLong, e3_TooLong, hn, ht, e4_TooLong⟩ (kit_ty n_TooLong_ValueError (by decide +kernel)) (.cons (PySem.W.mg_of X G g_BadCommand) ⟨e1_BadCommand, e2_BadCommand, s_BadCommand, d_BadCommand, e3_BadCommand, hn, ht, e4_BadCommand⟩ (kit_ty n_BadCommand_ValueError (by decide +kernel)) .nil)))))), (.cons (PySem.W.mg_of X G g_RowError) ⟨e1_RowError, e2_RowError, s_RowError, d_RowError, e3_RowError, hn, ht, e4_RowError⟩ (kit_ref n_RowError_BadCommand o_BadCommand d_BadCommand t_BadCommand) (.cons (PySem.W.mg_of X G g_BadMap) ⟨e1_BadMap, e2_BadMap, s_BadMap, d_BadMap, e3_BadMap, hn, ht, e4_BadMap⟩ (kit_ref n_BadMap_BadCommand o_BadCommand d_BadCommand t_BadCommand) (.cons (PySem.W.mg_of X G g_BadMachine) ⟨e1_BadMachine, e2_BadMachine, s_BadMachine, d_BadMachine, e3_BadMachine, hn, ht, e4_BadMachine⟩ (kit_ref n_BadMachine_BadCommand o_BadCommand d_BadCommand t_BadCommand) (.cons (PySem.W.mg_of X G g_OutOfRange) ⟨e1_OutOfRange, e2_OutOfRange, s_OutOfRange, d_OutOfRange, e3_OutOfRange, hn, ht, e4_OutOfRange⟩ (kit_ref n_OutOfRange_BadCommand o_BadCommand d_BadCommand t_BadCommand) (.cons (PySem.W.mg_of X G g_TooLong) ⟨e1_TooLong, e2_TooLong, s_TooLong, d_TooLong, e3_TooLong, hn, ht, e4_TooLong⟩ (kit_ref n_TooLong_BadCommand o_BadCommand d_BadCommand t_BadCommand) (.cons (PySem.W.mg_of X G g_BadCommand) ⟨e1_BadCommand, e2_BadCommand, s_BadCommand, d_BadCommand, e3_BadCommand, hn, ht, e4_BadCommand⟩ (kit_ref n_BadCommand_BadCommand o_BadCommand d_BadCommand t_BadCommand) .nil)))))), (.cons (PySem.W.mg_of X G g_RowError) ⟨e1_RowError, e2_RowError, s_RowError, d_RowError, e3_RowError, hn, ht, e4_RowError⟩ (kit_ref n_RowError_TooLong o_TooLong d_TooLong t_TooLong) (.cons (PySem.W.mg_of X G g_BadMap) ⟨e1_BadMap, e2_BadMap, s_BadMap, d_BadMap, e3_BadMap, hn, ht, e4_BadMap⟩ (kit_ref n_BadMap_TooLong o_TooLong d_TooLong t_TooLong) (.cons (PySem.W.mg_of X G g_BadMachine) ⟨e1_BadMachine, e2_BadMachine, s_BadMachine, d_BadMachine, e3_BadMachine, hn, ht, e4_BadMachine⟩ (kit_ref n_BadMachine_TooLong o_TooLong d_TooLong t_TooLong) (.cons (PySem.W.mg_of X G g_OutOfRange) ⟨e1_OutOfRange, e2_OutOfRange, s_OutOfRange, d_OutOfRange, e3_OutOfRange, hn, ht, e4_OutOfRange⟩ (kit_ref n_OutOfRange_TooLong o_TooLong d_TooLong t_TooLong) (.cons (PySem.W.mg_of X G g_TooLong) ⟨e1_TooLong, e2_TooLong, s_TooLong, d_TooLong, e3_TooLong, hn, ht, e4_TooLong⟩ (kit_ref n_TooLong_TooLong o_TooLong d_TooLong t_TooLong) (.cons (PySem.W.mg_of X G g_BadCommand) ⟨e1_BadCommand, e2_BadCommand, s_BadCommand, d_BadCommand, e3_BadCommand, hn, ht, e4_BadCommand⟩ (kit_ref n_BadCommand_TooLong o_TooLong d_TooLong t_TooLong) .nil)))))), (.cons (PySem.W.mg_of X G g_RowError) ⟨e1_RowError, e2_RowError, s_RowError, d_RowError, e3_RowError, hn, ht, e4_RowError⟩ (kit_ref n_RowError_OutOfRange o_OutOfRange d_OutOfRange t_OutOfRange) (.cons (PySem.W.mg_of X G g_BadMap) ⟨e1_BadMap, e2_BadMap, s_BadMap, d_BadMap, e3_BadMap, hn, ht, e4_BadMap⟩ (kit_ref n_BadMap_OutOfRange o_OutOfRange d_OutOfRange t_OutOfRange) (.cons (PySem.W.mg_of X G g_BadMachine) ⟨e1_BadMachine, e2_BadMachine, s_BadMachine, d_BadMachine, e3_BadMachine, hn, ht, e4_BadMachine⟩ (kit_ref n_BadMachine_OutOfRange o_OutOfRange d_OutOfRange t_OutOfRange) (.cons (PySem.W.mg_of X G g_OutOfRange) ⟨e1_OutOfRange, e2_OutOfRange, s_OutOfRange, d_OutOfRange, e3_OutOfRange, hn, ht, e4_OutOfRange⟩ (kit_ref n_OutOfRange_OutOfRange o_OutOfRange d_OutOfRange t_OutOfRange) (.cons (PySem.W.mg_of X G g_TooLong) ⟨e1_TooLong, e2_TooLong, s_TooLong, d_TooLong, e3_TooLong, hn, ht, e4_TooLong⟩ (kit_ref n_TooLong_OutOfRange o_OutOfRange d_OutOfRange t_OutOfRange) (.cons (PySem.W.mg_of X G g_BadCommand) ⟨e1_BadCommand, e2_BadCommand, s_BadCommand, d_BadCommand, e3_BadCommand, hn, ht, e4_BadCommand⟩ (kit_ref n_BadCommand_OutOfRange o_OutOfRange d_OutOfRange t_OutOfRange) .nil)))))), (.cons (PySem.W.mg_of X G g_RowError) ⟨e1_RowError, e2_RowError, s_RowError, d_RowError, e3_RowError, hn, ht, e4_RowError⟩ (kit_ref n_RowError_BadMachine o_BadMachine d_BadMachine t_BadMachine) (.cons (PySem.W.mg_of X G g_BadMap) ⟨e1_BadMap, e2_BadMap, s_BadMap, d_BadMap, e3_BadMap, hn, ht, e4_BadMap⟩ (kit_ref n_BadMap_BadMachine o_BadMachine d_BadMachine t_BadMachine) (.cons (PySem.W.mg_of X G g_BadMachine) ⟨e1_BadMachine, e2_BadMachine, s_BadMachine, d_BadMachine, e3_BadMachine, hn, ht, e4_BadMachine⟩ (kit_ref n_BadMachine_BadMachine o_BadMachine d_BadMachine t_BadMachine) (.cons (PySem.W.mg_of X G g_OutOfRange) ⟨e1_OutOfRange, e2_OutOfRange, s_OutOfRange, d_OutOfRange, e3_OutOfRange, hn, ht, e4_OutOfRange⟩ (kit_ref n_OutOfRange_BadMachine o_BadMachine d_BadMachine t_BadMachine) (.cons (PySem.W.mg_of X G g_TooLong) ⟨e1_TooLong, e2_TooLong, s_TooLong, d_TooLong, e3_TooLong, hn, ht, e4_TooLong⟩ (kit_ref n_TooLong_BadMachine o_BadMachine d_BadMachine t_BadMachine) (.cons (PySem.W.mg_of X G g_BadCommand) ⟨e1_BadCommand, e2_BadCommand, s_BadCommand, d_BadCommand, e3_BadCommand, hn, ht, e4_BadCommand⟩ (kit_ref n_BadCommand_BadMachine o_BadMachine d_BadMachine t_BadMachine) .nil)))))), (.cons (PySem.W.mg_of X G g_RowError) ⟨e1_RowError, e2_RowError, s_RowError, d_RowError, e3_RowError, hn, ht, e4_RowError⟩ (kit_ref n_RowError_BadMap o_BadMap d_BadMap t_BadMap) (.cons (PySem.W.mg_of X G g_BadMap) ⟨e1_BadMap, e2_BadMap, s_BadMap, d_BadMap, e3_BadMap, hn, ht, e4_BadMap⟩ (kit_ref n_BadMap_BadMap o_BadMap d_BadMap t_BadMap) (.cons (PySem.W.mg_of X G g_BadMachine) ⟨e1_BadMachine, e2_BadMachine, s_BadMachine, d_BadMachine, e3_BadMachine, hn, ht, e4_BadMachine⟩ (kit_ref n_BadMachine_BadMap o_BadMap d_BadMap t_BadMap) (.cons (PySem.W.mg_of X G g_OutOfRange) ⟨e1_OutOfRange, e2_OutOfRange, s_OutOfRange, d_OutOfRange, e3_OutOfRange, hn, ht, e4_OutOfRange⟩ (kit_ref n_OutOfRange_BadMap o_BadMap d_BadMap t_BadMap) (.cons (PySem.W.mg_of X G g_TooLong) ⟨e1_TooLong, e2_TooLong, s_TooLong, d_TooLong, e3_TooLong, hn, ht, e4_TooLong⟩ (kit_ref n_TooLong_BadMap o_BadMap d_BadMap t_BadMap) (.cons (PySem.W.mg_of X G g_BadCommand) ⟨e1_BadCommand, e2_BadCommand, s_BadCommand, d_BadCommand, e3_BadCommand, hn, ht, e4_BadCommand⟩ (kit_ref n_BadCommand_BadMap o_BadMap d_BadMap t_BadMap) .nil)))))), (.cons (PySem.W.mg_of X G g_RowError) ⟨e1_RowError, e2_RowError, s_RowError, d_RowError, e3_RowError, hn, ht, e4_RowError⟩ (kit_ref n_RowError_RowError o_RowError d_RowError t_RowError) (.cons (PySem.W.mg_of X G g_BadMap) ⟨e1_BadMap, e2_BadMap, s_BadMap, d_BadMap, e3_BadMap, hn, ht, e4_BadMap⟩ (kit_ref n_BadMap_RowError o_RowError d_RowError t_RowError) (.cons (PySem.W.mg_of X G g_BadMachine) ⟨e1_BadMachine, e2_BadMachine, s_BadMachine, d_BadMachine, e3_BadMachine, hn, ht, e4_BadMachine⟩ (kit_ref n_BadMachine_RowError o_RowError d_RowError t_RowError) (.cons (PySem.W.mg_of X G g_OutOfRange) ⟨e1_OutOfRange, e2_OutOfRange, s_OutOfRange, d_OutOfRange, e3_OutOfRange, hn, ht, e4_OutOfRange⟩ (kit_ref n_OutOfRange_RowError o_RowError d_RowError t_RowError) (.cons (PySem.W.mg_of X G g_TooLong) ⟨e1_TooLong, e2_TooLong, s_TooLong, d_TooLong, e3_TooLong, hn, ht, e4_TooLong⟩ (kit_ref n_TooLong_RowError o_RowError d_RowError t_RowError) (.cons (PySem.W.mg_of X G g_BadCommand) ⟨e1_BadCommand, e2_BadCommand, s_BadCommand, d_BadCommand, e3_BadCommand, hn, ht, e4_BadCommand⟩ (kit_ref n_BadCommand_RowError o_RowError d_RowError t_RowError) .nil)))))), ⟨pg_Desk, hd_Desk, po_Desk, sa_Desk⟩, ⟨pg_PairGraph, hd_PairGraph, po_PairGraph, sa_PairGraph⟩, nf_PairGraph_table, nf_PairGraph_width, nf_PairGraph_size, nf_PairGraph_states, nf_Desk_map, ⟨D_LEAST, es_LEAST, n_LEAST, PySem.W.mg_of X G ga_LEAST, ⟨la_LEAST, li_LEAST, lo_LEAST⟩, en_LEAST⟩, ⟨q_BadCommand, PySem.W.mg_of X G g_BadCommand, k_BadCommand⟩, ⟨q_TooLong, PySem.W.mg_of X G g_TooLong, k_TooLong⟩, ⟨q_OutOfRange, PySem.W.mg_of X G g_OutOfRange, k_OutOfRange⟩, ⟨q_BadMachine, PySem.W.mg_of X G g_BadMachine, k_BadMachine⟩, ⟨q_BadMap, PySem.W.mg_of X G g_BadMap, k_BadMap⟩, ⟨q_RowError, PySem.W.mg_of X G g_RowError, k_RowError⟩, nmOk_of (by refine ⟨PySem.W.mg_of X G g_RowError, ?_⟩; refine ⟨PySem.W.mg_of X G g_BadMap, ?_⟩; refine ⟨PySem.W.mg_of X G g_BadMachine, ?_⟩; refine ⟨PySem.W.mg_of X G g_OutOfRange, ?_⟩; refine ⟨PySem.W.mg_of X G g_TooLong, ?_⟩; refine ⟨PySem.W.mg_of X G g_BadCommand, ?_⟩; exact True.intro), txOk_of (by refine ⟨⟨_, PySem.W.mg_of X G g_RowError⟩, ?_⟩; refine ⟨⟨_, PySem.W.mg_of X G g_BadMap⟩, ?_⟩; refine ⟨⟨_, PySem.W.mg_of X G g_BadMachine⟩, ?_⟩; refine ⟨⟨_, PySem.W.mg_of X G g_OutOfRange⟩, ?_⟩; refine ⟨⟨_, PySem.W.mg_of X G g_TooLong⟩, ?_⟩; refine ⟨⟨_, PySem.W.mg_of X G g_BadCommand⟩, ?_⟩; exact True.intro), stOk_of (by refine ⟨⟨str_RowError, s_RowError⟩, ?_⟩; refine ⟨⟨str_BadMap, s_BadMap⟩, ?_⟩; refine ⟨⟨str_BadMachine, s_BadMachine⟩, ?_⟩; refine ⟨⟨str_OutOfRange, s_OutOfRange⟩, ?_⟩; refine ⟨⟨str_TooLong, s_TooLong⟩, ?_⟩; refine ⟨⟨str_BadCommand, s_BadCommand⟩, ?_⟩; exact True.intro)⟩
  have F0 := fun_mk (st := s__law_draws) l0 c0 k0
  have b0 := F0.binds (ps := ["_law_cell_here", "_law_limits"]) fun _ _ _ _ _ _ us hl => match us, hl with | [_, _], _ => rfl
  have F1 := fun_mk (st := s__law_cell) l1 c1 k1
  have b1 := F1.binds (ps := ["_law_script", "_law_k"]) fun _ _ _ _ _ _ us hl => match us, hl with | [_, _], _ => rfl
  have F2 := fun_mk (st := s__law_kinds) l2 c2 k2
  have b2 := F2.binds (ps := ["_law_e"]) fun _ _ _ _ _ _ us hl => match us, hl with | [_], _ => rfl
  have F3 := fun_mk (st := s__law_one) l3 c3 k3
  have b3 := F3.binds (ps := ["_law_e", "_law_which"]) fun _ _ _ _ _ _ us hl => match us, hl with | [_, _], _ => rfl
  have F4 := fun_mk (st := s_table_size) l4 c4 k4
  have b4 := F4.binds (ps := ["size", "width"]) fun _ _ _ _ _ _ us hl => match us, hl with | [_, _], _ => rfl
  have F5 := fun_mk (st := s_check_map) l5 c5 k5
  have b5 := F5.binds (ps := ["one"]) fun _ _ _ _ _ _ us hl => match us, hl with | [_], _ => rfl
  have F6 := fun_mk (st := s_check_machine) l6 c6 k6
  have b6 := F6.binds (ps := ["machine"]) fun _ _ _ _ _ _ us hl => match us, hl with | [_], _ => rfl
  have F7 := fun_mk (st := s_shift_map) l7 c7 k7
  have b7 := F7.binds (ps := ["size", "places"]) fun _ _ _ _ _ _ us hl => match us, hl with | [_, _], _ => rfl
  have F8 := fun_mk (st := s_count_words) l8 c8 k8
  have b8 := F8.binds (ps := ["size", "length"]) fun _ _ _ _ _ _ us hl => match us, hl with | [_, _], _ => rfl
  have F9 := fun_mk (st := s_PairGraph____init__) l9 c9 k9
  have b9 := F9.binds (ps := ["self", "one"]) fun _ _ _ _ _ _ us hl => match us, hl with | [_, _], _ => rfl
  have F10 := fun_mk (st := s_diamond_table) l10 c10 k10
  have b10 := F10.binds (ps := ["one"]) fun _ _ _ _ _ _ us hl => match us, hl with | [_], _ => rfl
  have F11 := fun_mk (st := s_decide_finite) l11 c11 k11
  have b11 := F11.binds (ps := ["one"]) fun _ _ _ _ _ _ us hl => match us, hl with | [_], _ => rfl
  have F12 := fun_mk (st := s_Desk____init__) l12 c12 k12
  have b12 := F12.binds (ps := ["self", "one"]) fun _ _ _ _ _ _ us hl => match us, hl with | [_, _], _ => rfl
  have F13 := fun_mk (st := s_require) l13 c13 k13
  have b13 := F13.binds (ps := ["holds", "message"]) fun _ _ _ _ _ _ us hl => match us, hl with | [_, _], _ => rfl
  have F14 := fun_mk (st := s_Desk__ask) l14 c14 k14
  have b14 := F14.binds (ps := ["self", "command"]) fun _ _ _ _ _ _ us hl => match us, hl with | [_, _], _ => rfl
  have F15 := fun_mk (st := s__law_refusal) l15 c15 k15
  have b15 := F15.binds (ps := ["_law_draws_here", "_law_way"]) fun _ _ _ _ _ _ us hl => match us, hl with | [_, _], _ => rfl
  have F16 := fun_mk (st := s_law) l16 c16 k16
  refine ⟨PySem.W.fnOf "law" "law" (defArgs s_law) (defBody s_law) (defScope s_law) .none kV16 dc16 pm16 an16 cd16 ct16, fun s v => .of_eq rfl, fun base _ _ => ?_⟩
  have H0 : Has l.prog w K mg base 1 "_law_draws" ["_law_cell_here", "_law_limits"] PF.f__law_draws := Has.mk' F0 (PySem.W.mg_of X G a0) b0 (ok__law_draws F0 bl )
  have H1 : Has l.prog w K mg base 1 "_law_cell" ["_law_script", "_law_k"] PF.f__law_cell := Has.mk' F1 (PySem.W.mg_of X G a1) b1 (ok__law_cell F1 bl )
  have HH2 : HasXH l.prog w K mg base 1 "_law_kinds" ["_law_e"] 0 PF.f__law_kinds := ⟨_, _, okH__law_kinds F2 bl , PySem.W.mg_of X G a2, k2, b2⟩
  have H2 : HasX l.prog w K mg base 1 "_law_kinds" ["_law_e"] 0 PF.f__law_kinds := ⟨_, _, ok__law_kinds F2 bl , PySem.W.mg_of X G a2, k2, b2⟩
  have HH3 : HasXH l.prog w K mg base 2 "_law_one" ["_law_e", "_law_which"] 1 PF.f__law_one := ⟨_, _, okH__law_one F3 bl HH2, PySem.W.mg_of X G a3, k3, b3⟩
  have H3 : HasX l.prog w K mg base 2 "_law_one" ["_law_e", "_law_which"] 1 PF.f__law_one := ⟨_, _, ok__law_one F3 bl H2, PySem.W.mg_of X G a3, k3, b3⟩
  have H4 : Has l.prog w K mg base 1 "table_size" ["size", "width"] PF.f_table_size := Has.mk' F4 (PySem.W.mg_of X G a4) b4 (ok_table_size F4 bl )
  have H5 : Has l.prog w K mg base 2 "check_map" ["one"] PF.f_check_map := Has.mk' F5 (PySem.W.mg_of X G a5) b5 (ok_check_map F5 bl H4)
  have H6 : Has l.prog w K mg base 1 "check_machine" ["machine"] PF.f_check_machine := Has.mk' F6 (PySem.W.mg_of X G a6) b6 (ok_check_machine F6 bl )
  have H7 : Has l.prog w K mg base 1 "shift_map" ["size", "places"] PF.f_shift_map := Has.mk' F7 (PySem.W.mg_of X G a7) b7 (ok_shift_map F7 bl )
  have H8 : Has l.prog w K mg base 1 "count_words" ["size", "length"] PF.f_count_words := Has.mk' F8 (PySem.W.mg_of X G a8) b8 (ok_count_words F8 bl )
  have H9 : HasI l.prog w K mg base 2 (cm 1) "PairGraph" ["self", "one"] 1 PF.f_PairGraph____init__ := ⟨_, _, ok_PairGraph____init__ F9 bl H8, ⟨mk_PairGraph, a9, i9, kc_PairGraph⟩, PySem.W.mg_of X G gk_PairGraph, b9⟩
  have H10 : Has l.prog w K mg base 4 "diamond_table" ["one"] PF.f_diamond_table_k17 := Has.mk' F10 (PySem.W.mg_of X G a10) b10 (ok_diamond_table F10 bl H9)
  have H11 : Has l.prog w K mg base 5 "decide_finite" ["one"] PF.f_decide_finite_k17 := Has.mk' F11 (PySem.W.mg_of X G a11) b11 (ok_decide_finite F11 bl H10)
  have H12 : HasI l.prog w K mg base 3 (cm 4) "Desk" ["self", "one"] 1 PF.f_Desk____init__ := ⟨_, _, ok_Desk____init__ F12 bl H5, ⟨mk_Desk, a12, i12, kc_Desk⟩, PySem.W.mg_of X G gk_Desk, b12⟩
  have H13 : Has l.prog w K mg base 1 "require" ["holds", "message"] PF.f_require := Has.mk' F13 (PySem.W.mg_of X G a13) b13 (ok_require F13 bl )
  have H14 : HasM l.prog w K mg base 2 (cm 4) "ask" ["self", "command"] 1 PF.f_Desk__ask_k17 := ⟨_, _, ok_Desk__ask F14 bl H13, ⟨a14, i14, k14⟩, b14⟩
  have H15 : Has l.prog w K mg base 6 "_law_refusal" ["_law_draws_here", "_law_way"] PF.f__law_refusal_k17 := Has.mk' F15 (PySem.W.mg_of X G a15) b15 (ok__law_refusal F15 bl H5 H6 H7 H11 H12 H14 H3 HH3)
  exact ok_law F16 bl H0 H1 H2 H3 H15
end LK17
open PySem PySem.W PyProof.Rows
set_option maxHeartbeats 0 in
theorem PySem.Challenge.cw_edenrow_k17_classes_of_exceptions_holds : PySem.Challenge.rw_edenrow_k17_classes_of_exceptions.Holds := by
  w_on; o_law; k_head; (case hw => w_witness2)
  k_fill
  refine PL.walkG (l := PySem.Challenge.rw_edenrow_k17_classes_of_exceptions) (k := 7) (x := "_law_script") (LF := PF.f_law_k17) rfl rfl ⟨rfl, by decide, by decide⟩ (fun w h Y => PySem.W.kIn_of Y) ?F PF.plain_law_k17
  case F =>
    intro w mg fa h KX G hmg
    refine' LK17.all_mk KX G hmg ?a0 ?l0 ?c0 ?k0 ?a1 ?l1 ?c1 ?k1 ?a2 ?l2 ?c2 ?k2 ?a3 ?l3 ?c3 ?k3 ?a4 ?l4 ?c4 ?k4 ?a5 ?l5 ?c5 ?k5 ?a6 ?l6 ?c6 ?k6 ?a7 ?l7 ?c7 ?k7 ?a8 ?l8 ?c8 ?k8 ?a9 ?i9 ?l9 ?c9 ?k9 ?a10 ?l10 ?c10 ?k10 ?a11 ?l11 ?c11 ?k11 ?a12 ?i12 ?l12 ?c12 ?k12 ?a13 ?l13 ?c13 ?k13 ?a14 ?i14 ?l14 ?c14 ?k14 ?a15 ?l15 ?c15 ?k15 ?a16 ?l16 ?c16 ?k16 ?z_str ?z_ValueError ?z_isinstance ?z_any ?z_range ?z_all ?z_int ?z_abs ?z_len ?z_list ?v_MAX_OFFSET ?v_MAX_TABLE ?v_MAX_STATES ?v_MOST_STATES ?gk_PairGraph ?pg_PairGraph ?hd_PairGraph ?po_PairGraph ?sa_PairGraph ?mk_PairGraph ?kc_PairGraph ?gk_Desk ?pg_Desk ?hd_Desk ?po_Desk ?sa_Desk ?mk_Desk ?kc_Desk ?nf_PairGraph_table ?nf_PairGraph_width ?nf_PairGraph_size ?nf_PairGraph_states ?nf_Desk_map ?ga_LEAST ?la_LEAST ?li_LEAST ?lo_LEAST ?en_LEAST ?g_RowError ?g_BadMap ?g_BadMachine ?g_OutOfRange ?g_TooLong ?g_BadCommand ?s_RowError ?t_RowError ?d_RowError ?s_BadMap ?t_BadMap ?d_BadMap ?s_BadMachine ?t_BadMachine ?d_BadMachine ?s_OutOfRange ?t_OutOfRange ?d_OutOfRange ?s_TooLong ?t_TooLong ?d_TooLong ?s_BadCommand ?t_BadCommand ?d_BadCommand ?q_RowError ?k_RowError ?str_RowError ?str_BadMap ?str_BadMachine ?str_OutOfRange ?str_TooLong ?str_BadCommand ?q_BadMap ?k_BadMap ?q_BadMachine ?k_BadMachine ?q_OutOfRange ?k_OutOfRange ?q_TooLong ?k_TooLong ?q_BadCommand ?k_BadCommand ?hn ?ht ?e1_RowError ?e2_RowError ?e3_RowError ?e4_RowError ?e1_BadMap ?e2_BadMap ?e3_BadMap ?e4_BadMap ?e1_BadMachine ?e2_BadMachine ?e3_BadMachine ?e4_BadMachine ?e1_OutOfRange ?e2_OutOfRange ?e3_OutOfRange ?e4_OutOfRange ?e1_TooLong ?e2_TooLong ?e3_TooLong ?e4_TooLong ?e1_BadCommand ?e2_BadCommand ?e3_BadCommand ?e4_BadCommand ?m_RowError_RowError ?m_BadMap_RowError ?m_BadMachine_RowError ?m_OutOfRange_RowError ?m_TooLong_RowError ?m_BadCommand_RowError ?n_RowError_ValueError ?n_BadMap_ValueError ?n_BadMachine_ValueError ?n_OutOfRange_ValueError ?n_TooLong_ValueError ?n_BadCommand_ValueError ?o_BadCommand ?n_RowError_BadCommand ?n_BadMap_BadCommand ?n_BadMachine_BadCommand ?n_OutOfRange_BadCommand ?n_TooLong_BadCommand ?n_BadCommand_BadCommand ?o_TooLong ?n_RowError_TooLong ?n_BadMap_TooLong ?n_BadMachine_TooLong ?n_OutOfRange_TooLong ?n_TooLong_TooLong ?n_BadCommand_TooLong ?o_OutOfRange ?n_RowError_OutOfRange ?n_BadMap_OutOfRange ?n_BadMachine_OutOfRange ?n_OutOfRange_OutOfRange ?n_TooLong_OutOfRange ?n_BadCommand_OutOfRange ?o_BadMachine ?n_RowError_BadMachine ?n_BadMap_BadMachine ?n_BadMachine_BadMachine ?n_OutOfRange_BadMachine ?n_TooLong_BadMachine ?n_BadCommand_BadMachine ?o_BadMap ?n_RowError_BadMap ?n_BadMap_BadMap ?n_BadMachine_BadMap ?n_OutOfRange_BadMap ?n_TooLong_BadMap ?n_BadCommand_BadMap ?o_RowError ?n_RowError_RowError ?n_BadMap_RowError ?n_BadMachine_RowError ?n_OutOfRange_RowError ?n_TooLong_RowError ?n_BadCommand_RowError
    (case gk_PairGraph => k_is)
    (case gk_Desk => k_is)
    (case a0 => k_is)
    (case l0 => k_is)
    (case c0 => k_is)
    (case k0 => k_is)
    (case a1 => k_is)
    (case l1 => k_is)
    (case c1 => k_is)
    (case k1 => k_is)
    (case a2 => k_is)
    (case l2 => k_is)
    (case c2 => k_is)
    (case k2 => k_is)
    (case a3 => k_is)
    (case l3 => k_is)
    (case c3 => k_is)
    (case k3 => k_is)
    (case a4 => k_is)
    (case l4 => k_is)
    (case c4 => k_is)
    (case k4 => k_is)
    (case a5 => k_is)
    (case l5 => k_is)
    (case c5 => k_is)
    (case k5 => k_is)
    (case a6 => k_is)
    (case l6 => k_is)
    (case c6 => k_is)
    (case k6 => k_is)
    (case a7 => k_is)
    (case l7 => k_is)
    (case c7 => k_is)
    (case k7 => k_is)
    (case a8 => k_is)
    (case l8 => k_is)
    (case c8 => k_is)
    (case k8 => k_is)
    (case a9 => k_is)
    (case i9 => k_is)
    (case l9 => k_is)
    (case c9 => k_is)
    (case k9 => k_is)
    (case a10 => k_is)
    (case l10 => k_is)
    (case c10 => k_is)
    (case k10 => k_is)
    (case a11 => k_is)
    (case l11 => k_is)
    (case c11 => k_is)
    (case k11 => k_is)
    (case a12 => k_is)
    (case i12 => k_is)
    (case l12 => k_is)
    (case c12 => k_is)
    (case k12 => k_is)
    (case a13 => k_is)
    (case l13 => k_is)
    (case c13 => k_is)
    (case k13 => k_is)
    (case a14 => k_is)
    (case i14 => k_is)
    (case l14 => k_is)
    (case c14 => k_is)
    (case k14 => k_is)
    (case a15 => k_is)
    (case l15 => k_is)
    (case c15 => k_is)
    (case k15 => k_is)
    (case a16 => k_is)
    (case l16 => k_is)
    (case c16 => k_is)
    (case k16 => k_is)
    (case z_str => k_is)
    (case z_ValueError => k_is)
    (case z_isinstance => k_is)
    (case z_any => k_is)
    (case z_range => k_is)
    (case z_all => k_is)
    (case z_int => k_is)
    (case z_abs => k_is)
    (case z_len => k_is)
    (case z_list => k_is)
    (case v_MAX_OFFSET => k_is)
    (case v_MAX_TABLE => k_is)
    (case v_MAX_STATES => k_is)
    (case v_MOST_STATES => k_is)
    (case pg_PairGraph => k_is)
    (case hd_PairGraph => k_is)
    (case po_PairGraph => k_is)
    (case sa_PairGraph => k_is)
    (case mk_PairGraph => k_is)
    (case kc_PairGraph => k_is)
    (case pg_Desk => k_is)
    (case hd_Desk => k_is)
    (case po_Desk => k_is)
    (case sa_Desk => k_is)
    (case mk_Desk => k_is)
    (case kc_Desk => k_is)
    (case nf_PairGraph_table => k_is)
    (case nf_PairGraph_width => k_is)
    (case nf_PairGraph_size => k_is)
    (case nf_PairGraph_states => k_is)
    (case nf_Desk_map => k_is)
    (case ga_LEAST => k_is)
    (case la_LEAST => k_is)
    (case li_LEAST => ((repeat (refine ⟨⟨_, _, rfl, rfl⟩, ?_⟩)) <;> exact True.intro))
    (case lo_LEAST => rfl)
    (case en_LEAST => ((repeat (refine ⟨⟨_, rfl⟩, ⟨_, rfl⟩, ?_⟩)) <;> exact True.intro))
    (case g_RowError => k_is)
    (case g_BadMap => k_is)
    (case g_BadMachine => k_is)
    (case g_OutOfRange => k_is)
    (case g_TooLong => k_is)
    (case g_BadCommand => k_is)
    (case s_RowError => k_is)
    (case t_RowError => k_is)
    (case d_RowError => k_is)
    (case s_BadMap => k_is)
    (case t_BadMap => k_is)
    (case d_BadMap => k_is)
    (case s_BadMachine => k_is)
    (case t_BadMachine => k_is)
    (case d_BadMachine => k_is)
    (case s_OutOfRange => k_is)
    (case t_OutOfRange => k_is)
    (case d_OutOfRange => k_is)
    (case s_TooLong => k_is)
    (case t_TooLong => k_is)
    (case d_TooLong => k_is)
    (case s_BadCommand => k_is)
    (case t_BadCommand => k_is)
    (case d_BadCommand => k_is)
    (case q_RowError => k_exc)
    (case k_RowError => k_is)
    (case str_RowError => k_is)
    (case str_BadMap => k_is)
    (case str_BadMachine => k_is)
    (case str_OutOfRange => k_is)
    (case str_TooLong => k_is)
    (case str_BadCommand => k_is)
    (case q_BadMap => k_exc)
    (case k_BadMap => k_is)
    (case q_BadMachine => k_exc)
    (case k_BadMachine => k_is)
    (case q_OutOfRange => k_exc)
    (case k_OutOfRange => k_is)
    (case q_TooLong => k_exc)
    (case k_TooLong => k_is)
    (case q_BadCommand => k_exc)
    (case k_BadCommand => k_is)
    (case hn => k_is)
    (case ht => k_is)
    (case e1_RowError => k_is)
    (case e2_RowError => k_is)
    (case e3_RowError => k_is)
    (case e4_RowError => k_is)
    (case e1_BadMap => k_is)
    (case e2_BadMap => k_is)
    (case e3_BadMap => k_is)
    (case e4_BadMap => k_is)
    (case e1_BadMachine => k_is)
    (case e2_BadMachine => k_is)
    (case e3_BadMachine => k_is)
    (case e4_BadMachine => k_is)
    (case e1_OutOfRange => k_is)
    (case e2_OutOfRange => k_is)
    (case e3_OutOfRange => k_is)
    (case e4_OutOfRange => k_is)
    (case e1_TooLong => k_is)
    (case e2_TooLong => k_is)
    (case e3_TooLong => k_is)
    (case e4_TooLong => k_is)
    (case e1_BadCommand => k_is)
    (case e2_BadCommand => k_is)
    (case e3_BadCommand => k_is)
    (case e4_BadCommand => k_is)
    (case m_RowError_RowError => k_is)
    (case m_BadMap_RowError => k_is)
    (case m_BadMachine_RowError => k_is)
    (case m_OutOfRange_RowError => k_is)
    (case m_TooLong_RowError => k_is)
    (case m_BadCommand_RowError => k_is)
    (case n_RowError_ValueError => k_is)
    (case n_BadMap_ValueError => k_is)
    (case n_BadMachine_ValueError => k_is)
    (case n_OutOfRange_ValueError => k_is)
    (case n_TooLong_ValueError => k_is)
    (case n_BadCommand_ValueError => k_is)
    (case o_BadCommand => k_is)
    (case n_RowError_BadCommand => k_is)
    (case n_BadMap_BadCommand => k_is)
    (case n_BadMachine_BadCommand => k_is)
    (case n_OutOfRange_BadCommand => k_is)
    (case n_TooLong_BadCommand => k_is)
    (case n_BadCommand_BadCommand => k_is)
    (case o_TooLong => k_is)
    (case n_RowError_TooLong => k_is)
    (case n_BadMap_TooLong => k_is)
    (case n_BadMachine_TooLong => k_is)
    (case n_OutOfRange_TooLong => k_is)
    (case n_TooLong_TooLong => k_is)
    (case n_BadCommand_TooLong => k_is)
    (case o_OutOfRange => k_is)
    (case n_RowError_OutOfRange => k_is)
    (case n_BadMap_OutOfRange => k_is)
    (case n_BadMachine_OutOfRange => k_is)
    (case n_OutOfRange_OutOfRange => k_is)
    (case n_TooLong_OutOfRange => k_is)
    (case n_BadCommand_OutOfRange => k_is)
    (case o_BadMachine => k_is)
    (case n_RowError_BadMachine => k_is)
    (case n_BadMap_BadMachine => k_is)
    (case n_BadMachine_BadMachine => k_is)
    (case n_OutOfRange_BadMachine => k_is)
    (case n_TooLong_BadMachine => k_is)
    (case n_BadCommand_BadMachine => k_is)
    (case o_BadMap => k_is)
    (case n_RowError_BadMap => k_is)
    (case n_BadMap_BadMap => k_is)
    (case n_BadMachine_BadMap => k_is)
    (case n_OutOfRange_BadMap => k_is)
    (case n_TooLong_BadMap => k_is)
    (case n_BadCommand_BadMap => k_is)
    (case o_RowError => k_is)
    (case n_RowError_RowError => k_is)
    (case n_BadMap_RowError => k_is)
    (case n_BadMachine_RowError => k_is)
    (case n_OutOfRange_RowError => k_is)
    (case n_TooLong_RowError => k_is)
    (case n_BadCommand_RowError => k_is)
