import PyProof.Rows.All
import Wide.All
import OpenK.AllK
import Wide.FinOn
import PyProof.ZipIter
import KE.GoesEnumKw
import KE.DataCmp
import KE.SortData
import PyProof.Rows.RuleB_pow
import HandS.ForMost
import HandS.Style
import HandS.IsInst
import HandS.Wide
import HandS.WideBits
import HandS.NoneIn
import HandS.SortKw
import HandS.Zip0
import PySem.Challenge.RW_wholesound_k38_whole_fewest_lifts
set_option Elab.async false
set_option linter.all false
set_option maxRecDepth 100000
set_option maxHeartbeats 4000000
/-! The layer by data: what expressions and statements give, told by data alone. -/
namespace WS
open PySem PySem.Spec PyProof.Rows L2

abbrev D := PyData
/-- the heap but for some addresses -/
def msk (B : List Addr) (H : Hp) : Hp := fun a => if a ∈ B then none else H a
section
variable {B : List Addr} {H H' H1 H2 : Hp} {l p : Addr} {o : HO}
theorem msk_out (h : l ∉ B) : msk B H l = H l := by unfold msk; rw [if_neg h]
theorem msk_in (h : l ∈ B) : msk B H l = none := by unfold msk; rw [if_pos h]
theorem msk_some (h : msk B H l = some o) : l ∉ B ∧ H l = some o := by
  unfold msk at h
  split at h
  · cases h
  · next n => exact ⟨n, h⟩
theorem msk_ex (e : Same H H') : Same (msk B H) (msk B H') := fun a o h => by
  obtain ⟨n, q⟩ := msk_some h
  rw [msk_out n]; exact e a o q
theorem msk_le : Same (msk B H) H := fun a o h => (msk_some h).2
theorem msk_sub {B' : List Addr} (hs : ∀ b ∈ B', b ∈ B) : Same (msk B H) (msk B' H) := fun a o h => by
  obtain ⟨n, q⟩ := msk_some h
  rw [msk_out fun z => n (hs a z)]; exact q
theorem msk_upd (h : l ∈ B) : msk B (upd H l o) = msk B H := by
  funext a
  by_cases ha : a ∈ B
  · rw [msk_in ha, msk_in ha]
  · rw [msk_out ha, msk_out ha, upd_ne (fun z => ha (by rw [z]; exact h))]
theorem msk_none (h : H l = none) : msk (l :: B) H = msk B H := by
  funext a
  by_cases ha : a ∈ B
  · rw [msk_in ha, msk_in (List.mem_cons_of_mem _ ha)]
  · by_cases hl : a = l
    · subst hl; rw [msk_in List.mem_cons_self, msk_out ha, h]
    · rw [msk_out ha, msk_out (by simp [hl, ha])]
theorem same_new (h : H l = none) : Same H (upd H l o) := fun a u e => by
  rw [upd_ne (ne_of_none e h)]; exact e
theorem sqT_ex {K : PySem.W.Frag} {a : Addr} {xs : List V} (e : Same H H') (h : SqT K H a xs) : SqT K H' a xs := by
  rcases h with (h | ⟨o, h⟩) | h
  · exact .inl (.inl (e _ _ h))
  · exact .inl (.inr ⟨o, e _ _ h⟩)
  · exact .inr h
end
end WS
namespace L2
open PySem PySem.Spec PyProof.Rows WS
section
variable {K : PySem.W.Frag} {H H' : Hp}
mutual
theorem dp_ex (e : Same H H') : ∀ (d : PyData) (v : V), Dp K H v d → Dp K H' v d
  | .none, _, h => by cases h; exact .non
  | .bool _, _, h => by cases h; exact .bl _
  | .int _, _, h => by cases h; exact .int _
  | .str _, _, h => by cases h; exact .str _
  | .list ds, _, h => by cases h with | lst hs ha => exact .lst (e.seq hs) (dpa_ex e ds _ ha)
  | .tuple ds, _, h => by cases h with | tup hs ha => exact .tup (sqT_ex e hs) (dpa_ex e ds _ ha)
  | .dict _, _, h => by cases h
theorem dpa_ex (e : Same H H') : ∀ (ds : List PyData) (vs : List V), DpAll K H vs ds → DpAll K H' vs ds
  | [], _, h => by cases h; exact .nil
  | d :: ds, _, h => by cases h with | cons h1 h2 => exact .cons (dp_ex e d _ h1) (dpa_ex e ds _ h2)
end
theorem Dp.ex {v : V} {d : PyData} (h : Dp K H v d) (e : Same H H') : Dp K H' v d := dp_ex e d v h
theorem DpAll.ex {vs : List V} {ds : List PyData} (h : DpAll K H vs ds) (e : Same H H') : DpAll K H' vs ds := dpa_ex e ds vs h
theorem DpAll.len : ∀ {vs : List V} {ds : List PyData}, DpAll K H vs ds → vs.length = ds.length
  | _, _, .nil => rfl
  | _, _, .cons _ t => congrArg (· + 1) (DpAll.len t)
theorem DpAll.get : ∀ {vs : List V} {ds : List PyData} {i : Nat} {d : PyData}, DpAll K H vs ds → ds[i]? = some d → ∃ v, vs[i]? = some v ∧ Dp K H v d
  | _, _, _, _, .nil, e => by simp at e
  | _, _, 0, _, .cons r _, e => by simp at e; subst e; exact ⟨_, rfl, r⟩
  | _, _, i + 1, d, .cons _ t, e => by
    obtain ⟨v, h1, h2⟩ := DpAll.get (i := i) (d := d) t (by simpa using e)
    exact ⟨v, by simpa using h1, h2⟩
theorem DpAll.getV : ∀ {vs : List V} {ds : List PyData} {i : Nat} {v : V}, DpAll K H vs ds → vs[i]? = some v → ∃ d, ds[i]? = some d ∧ Dp K H v d
  | _, _, _, _, .nil, e => by simp at e
  | _, _, 0, _, .cons r _, e => by simp at e; subst e; exact ⟨_, rfl, r⟩
  | _, _, i + 1, d, .cons _ t, e => by
    obtain ⟨v, h1, h2⟩ := DpAll.getV (i := i) (v := d) t (by simpa using e)
    exact ⟨v, by simpa using h1, h2⟩
theorem DpAll.app : ∀ {vs ws : List V} {ds es : List PyData}, DpAll K H vs ds → DpAll K H ws es → DpAll K H (vs ++ ws) (ds ++ es)
  | _, _, _, _, .nil, s => s
  | _, _, _, _, .cons r t, s => .cons r (DpAll.app t s)
theorem DpAll.set {v : V} {d : PyData} (r : Dp K H v d) : ∀ {vs : List V} {ds : List PyData} (i : Nat), DpAll K H vs ds → DpAll K H (vs.set i v) (ds.set i d)
  | _, _, _, .nil => .nil
  | _, _, 0, .cons _ t => .cons r t
  | _, _, i + 1, .cons q t => .cons q (DpAll.set r i t)
theorem DpAll.take : ∀ {vs : List V} {ds : List PyData} (n : Nat), DpAll K H vs ds → DpAll K H (vs.take n) (ds.take n)
  | _, _, 0, _ => .nil
  | _, _, _ + 1, .nil => .nil
  | _, _, n + 1, .cons r t => .cons r (DpAll.take n t)
theorem DpAll.drop : ∀ {vs : List V} {ds : List PyData} (n : Nat), DpAll K H vs ds → DpAll K H (vs.drop n) (ds.drop n)
  | _, _, 0, r => r
  | _, _, _ + 1, .nil => .nil
  | _, _, n + 1, .cons _ t => DpAll.drop n t
theorem DpAll.rev {vs : List V} {ds : List PyData} (h : DpAll K H vs ds) : DpAll K H vs.reverse ds.reverse := by
  induction ds generalizing vs with
  | nil => cases h; exact .nil
  | cons d ds ih =>
    cases h with
    | cons r t =>
      rw [List.reverse_cons, List.reverse_cons]
      exact (ih t).app (.cons r .nil)
theorem DpAll.rep {vs : List V} {ds : List PyData} (h : DpAll K H vs ds) : ∀ k : Nat, DpAll K H (List.replicate k vs).flatten (List.replicate k ds).flatten
  | 0 => .nil
  | k + 1 => by
    rw [List.replicate_succ, List.replicate_succ, List.flatten_cons, List.flatten_cons]
    exact h.app (DpAll.rep h k)
theorem Dp.int_inv {v : V} {i : Int} (h : Dp K H v (.int i)) : v = .int i := by cases h; rfl
theorem Dp.bl_inv {v : V} {i : Bool} (h : Dp K H v (.bool i)) : v = .bl i := by cases h; rfl
theorem Dp.str_inv {v : V} {i : Str} (h : Dp K H v (.str i)) : v = .str i := by cases h; rfl
theorem Dp.non_inv {v : V} (h : Dp K H v .none) : v = .non := by cases h; rfl
theorem Dp.list_inv {v : V} {ds : List PyData} (h : Dp K H v (.list ds)) : ∃ a vs, v = .ref a ∧ SqL K H a vs ∧ DpAll K H vs ds := by
  cases h with | lst hs ha => exact ⟨_, _, rfl, hs, ha⟩
theorem Dp.tup_inv {v : V} {ds : List PyData} (h : Dp K H v (.tuple ds)) : ∃ a vs, v = .ref a ∧ SqT K H a vs ∧ DpAll K H vs ds := by
  cases h with | tup hs ha => exact ⟨_, _, rfl, hs, ha⟩
theorem DpAll.ints : ∀ {vs : List V} {ns : List Int}, DpAll K H vs (ns.map PyData.int) → vs = ns.map V.int
  | _, [], h => by cases h; rfl
  | _, n :: ns, h => by
    cases h with
    | cons r t => rw [r.int_inv, DpAll.ints t]; rfl
theorem dpa_ints : ∀ (ns : List Int), DpAll K H (ns.map V.int) (ns.map PyData.int)
  | [] => .nil
  | n :: ns => .cons (.int n) (dpa_ints ns)
end

end L2
namespace WS
open PySem PySem.Spec PyProof.Rows L2
/-! ### what stands in the slots -/
inductive Sl where
  | emp
  | dat (d : D)
  | own (l : Addr) (ds : List D)
  | raw (v : V)
  | mix (C : Addr) (ss : List D)
/-- a mixer on two ways: its steps, as they are kept -/
def MixV (K : PySem.W.Frag) (H : Hp) (C : Addr) (v : V) (ss : List D) : Prop := ∃ x dx r, v = .ref x ∧ H x = some (.ins C dx [("many", .int 2), ("rows", r)]) ∧ Dp K H r (.list ss)
theorem MixV.ex {K : PySem.W.Frag} {H H' : Hp} {C : Addr} {v : V} {ss : List D} (h : MixV K H C v ss) (e : Same H H') : MixV K H' C v ss := by
  obtain ⟨x, dx, r, h1, h2, h3⟩ := h
  exact ⟨x, dx, r, h1, e _ _ h2, h3.ex e⟩
def SlOk (K : PySem.W.Frag) (B : List Addr) (H : Hp) (o : Option (Option V)) : Sl → Prop
  | .emp => True
  | .dat d => ∃ v, o = some (some v) ∧ Dp K (msk B H) v d
  | .own l ds => o = some (some (.ref l)) ∧ l ∈ B ∧ ∃ vs, H l = some (.lst vs) ∧ DpAll K (msk B H) vs ds
  | .raw v => o = some (some v)
  | .mix C ss => ∃ v, o = some (some v) ∧ MixV K (msk B H) C v ss
structure Env (K : PySem.W.Frag) (B : List Addr) (H0 : Hp) (σ : L2.St) (H : Hp) (Γ : List Sl) : Prop where
  len : σ.length = Γ.length
  at_ : ∀ (i : Nat) (s : Sl), Γ[i]? = some s → SlOk K B H (σ[i]?) s
  ex : Same H0 H
  bnd : ∀ b ∈ B, ∃ o, H b = some o
  new : ∀ (i : Nat) (l : Addr) (ds : List D), Γ[i]? = some (.own l ds) → H0 l = none
  inj : ∀ (i j : Nat) (l : Addr) (ds ds' : List D), Γ[i]? = some (.own l ds) → Γ[j]? = some (.own l ds') → i = j
section
variable {K : PySem.W.Frag} {B : List Addr} {H0 H H' : Hp} {σ : L2.St} {Γ Γ' : List Sl}
theorem SlOk.mono {o : Option (Option V)} {s : Sl} (h : SlOk K B H o s) (e : Same (msk B H) (msk B H')) (k : ∀ l ds vs, s = .own l ds → H l = some (.lst vs) → H' l = some (.lst vs)) : SlOk K B H' o s := by
  cases s with
  | emp => trivial
  | dat d => obtain ⟨v, h1, h2⟩ := h; exact ⟨v, h1, h2.ex e⟩
  | mix C ss => obtain ⟨v, h1, h2⟩ := h; exact ⟨v, h1, h2.ex e⟩
  | own l ds => obtain ⟨h1, h2, vs, h3, h4⟩ := h; exact ⟨h1, h2, vs, k l ds vs rfl h3, h4.ex e⟩
  | raw v => exact h
/-- a heap that has grown -/
theorem Env.grow (E : Env K B H0 σ H Γ) (e : Same H H') : Env K B H0 σ H' Γ :=
  ⟨E.len, fun i s h => (E.at_ i s h).mono (msk_ex e) fun l ds vs _ q => e _ _ q, E.ex.trans e, fun b hb => let ⟨o, q⟩ := E.bnd b hb; ⟨o, e _ _ q⟩, E.new, E.inj⟩
theorem Env.nin (E : Env K B H0 σ H Γ) {l : Addr} (h : H l = none) : l ∉ B := fun z => by
  obtain ⟨o, q⟩ := E.bnd l z
  rw [h] at q; cases q
/-- one more address that no data names -/
theorem Env.more (E : Env K B H0 σ H Γ) {l : Addr} {o : HO} (h : H l = none) : Env K (l :: B) H0 σ (upd H l o) Γ := by
  have hn := E.nin h
  have e : msk (l :: B) (upd H l o) = msk B H := by rw [msk_upd List.mem_cons_self, msk_none h]
  refine ⟨E.len, fun i s q => ?_, E.ex.trans (same_new h), fun b hb => ?_, E.new, E.inj⟩
  · have z := E.at_ i s q
    cases s with
    | emp => trivial
    | dat d => obtain ⟨v, h1, h2⟩ := z; exact ⟨v, h1, by rw [e]; exact h2⟩
    | mix C ss => obtain ⟨v, h1, h2⟩ := z; exact ⟨v, h1, by rw [e]; exact h2⟩
    | own l' ds =>
      obtain ⟨h1, h2, vs, h3, h4⟩ := z
      exact ⟨h1, List.mem_cons_of_mem _ h2, vs, by rw [upd_ne (ne_of_none h3 h)]; exact h3, by rw [e]; exact h4⟩
    | raw v => exact z
  · rcases List.mem_cons.mp hb with z | z
    · exact ⟨o, by rw [z]; exact upd_same⟩
    · obtain ⟨o', q⟩ := E.bnd b z
      exact ⟨o', by rw [upd_ne (ne_of_none q h)]; exact q⟩
/-- fewer such addresses, where no list of one's own stands at them -/
theorem Env.less (E : Env K B H0 σ H Γ) {B' : List Addr} (hs : ∀ b ∈ B', b ∈ B) (ho : ∀ (i : Nat) l ds, Γ[i]? = some (.own l ds) → l ∈ B') : Env K B' H0 σ H Γ := by
  refine ⟨E.len, fun i s q => ?_, E.ex, fun b hb => E.bnd b (hs b hb), E.new, E.inj⟩
  have z := E.at_ i s q
  cases s with
  | emp => trivial
  | dat d => obtain ⟨v, h1, h2⟩ := z; exact ⟨v, h1, h2.ex (msk_sub hs)⟩
  | mix C ss => obtain ⟨v, h1, h2⟩ := z; exact ⟨v, h1, h2.ex (msk_sub hs)⟩
  | own l' ds => obtain ⟨h1, h2, vs, h3, h4⟩ := z; exact ⟨h1, ho i _ _ q, vs, h3, h4.ex (msk_sub hs)⟩
  | raw v => exact z
theorem set_get {α : Type} {l : List α} {i j : Nat} {x y : α} (h : (l.set i x)[j]? = some y) : (i = j ∧ y = x ∧ i < l.length) ∨ (i ≠ j ∧ l[j]? = some y) := by
  by_cases e : i = j
  · subst e
    by_cases hl : i < l.length
    · rw [List.getElem?_set_self hl] at h
      exact .inl ⟨rfl, (Option.some.inj h).symm, hl⟩
    · rw [List.getElem?_eq_none (by simpa using hl)] at h; cases h
  · rw [List.getElem?_set_ne e] at h
    exact .inr ⟨e, h⟩
/-- a store of data -/
theorem Env.setD (E : Env K B H0 σ H Γ) (i : Nat) {v : V} {d : D} (h : Dp K (msk B H) v d) : Env K B H0 (σ.set i (some v)) H (Γ.set i (.dat d)) := by
  refine ⟨by rw [List.length_set, List.length_set]; exact E.len, fun j s q => ?_, E.ex, E.bnd, fun j l ds q => ?_, fun j k l ds ds' q r => ?_⟩
  · rcases set_get q with ⟨e1, e2, e3⟩ | ⟨e1, e2⟩
    · subst e1 e2
      exact ⟨v, by rw [List.getElem?_set_self (by rw [E.len]; exact e3)], h⟩
    · rw [List.getElem?_set_ne e1]; exact E.at_ j s e2
  · rcases set_get q with ⟨_, e2, _⟩ | ⟨_, e2⟩
    · cases e2
    · exact E.new j l ds e2
  · rcases set_get q with ⟨_, e2, _⟩ | ⟨_, e2⟩
    · cases e2
    · rcases set_get r with ⟨_, e3, _⟩ | ⟨_, e3⟩
      · cases e3
      · exact E.inj j k l ds ds' e2 e3
theorem Env.setO (E : Env K B H0 σ H Γ) (i : Nat) {l : Addr} {ds : List D} {vs : List V} (hB : l ∈ B) (h0 : H0 l = none) (hn : ∀ (j : Nat) ds', Γ[j]? = some (.own l ds') → i = j) (hl : H l = some (.lst vs)) (h : DpAll K (msk B H) vs ds) : Env K B H0 (σ.set i (some (.ref l))) H (Γ.set i (.own l ds)) := by
  refine ⟨by rw [List.length_set, List.length_set]; exact E.len, fun j s q => ?_, E.ex, E.bnd, fun j l ds q => ?_, fun j k l' ds ds' q r => ?_⟩
  · rcases set_get q with ⟨e1, e2, e3⟩ | ⟨e1, e2⟩
    · subst e1 e2
      exact ⟨by rw [List.getElem?_set_self (by rw [E.len]; exact e3)], hB, vs, hl, h⟩
    · rw [List.getElem?_set_ne e1]; exact E.at_ j s e2
  · rcases set_get q with ⟨_, e2, _⟩ | ⟨_, e2⟩
    · injection e2 with e3 e4; rw [e3]; exact h0
    · exact E.new j _ ds e2
  · rcases set_get q with ⟨e1, e2, _⟩ | ⟨e1, e2⟩
    · rcases set_get r with ⟨e4, e3, _⟩ | ⟨e4, e3⟩
      · exact e1.symm.trans e4
      · injection e2 with e5 e6
        exact e1.symm.trans (hn k ds' (e5 ▸ e3))
    · rcases set_get r with ⟨e4, e3, _⟩ | ⟨e4, e3⟩
      · injection e3 with e5 e6
        exact (hn j ds (e5 ▸ e2)).symm.trans e4
      · exact E.inj j k l' ds ds' e2 e3
/-- the own list at slot i is changed -/
theorem Env.write (E : Env K B H0 σ H Γ) {i : Nat} {l : Addr} {ds ds' : List D} {vs' : List V} (hi : Γ[i]? = some (.own l ds)) (h : DpAll K (msk B H) vs' ds') : Env K B H0 σ (upd H l (.lst vs')) (Γ.set i (.own l ds')) := by
  have z := E.at_ i _ hi
  obtain ⟨z1, z2, vs, z3, z4⟩ := z
  have em : msk B (upd H l (.lst vs')) = msk B H := msk_upd z2
  refine ⟨by rw [List.length_set]; exact E.len, fun j s q => ?_, fun a o q => ?_, fun b hb => ?_, fun j l' ds q => ?_, fun j k l' ds1 ds2 q r => ?_⟩
  · rcases set_get q with ⟨e1, e2, e3⟩ | ⟨e1, e2⟩
    · subst e1 e2
      exact ⟨z1, z2, vs', upd_same, by rw [em]; exact h⟩
    · have y := E.at_ j s e2
      cases s with
      | emp => trivial
      | dat d => obtain ⟨v, h1, h2⟩ := y; exact ⟨v, h1, by rw [em]; exact h2⟩
      | mix C ss => obtain ⟨v, h1, h2⟩ := y; exact ⟨v, h1, by rw [em]; exact h2⟩
      | own l' ds2 =>
        obtain ⟨h1, h2, vs2, h3, h4⟩ := y
        have ne : l' ≠ l := fun e => e1 (E.inj i j l ds ds2 hi (e ▸ e2))
        exact ⟨h1, h2, vs2, by rw [upd_ne ne]; exact h3, by rw [em]; exact h4⟩
      | raw v => exact y
  · rw [upd_ne (ne_of_none q (E.new i l ds hi))]; exact E.ex a o q
  · by_cases e : b = l
    · exact ⟨_, by rw [e]; exact upd_same⟩
    · obtain ⟨o, q⟩ := E.bnd b hb
      exact ⟨o, by rw [upd_ne e]; exact q⟩
  · rcases set_get q with ⟨_, e2, _⟩ | ⟨_, e2⟩
    · injection e2 with e3 e4; rw [e3]; exact E.new i l _ hi
    · exact E.new j l' ds e2
  · rcases set_get q with ⟨e1, e2, _⟩ | ⟨e1, e2⟩
    · rcases set_get r with ⟨e4, e3, _⟩ | ⟨e4, e3⟩
      · exact e1.symm.trans e4
      · injection e2 with e5 e6
        exact e1.symm.trans (E.inj i k l ds ds2 hi (e5 ▸ e3))
    · rcases set_get r with ⟨e4, e3, _⟩ | ⟨e4, e3⟩
      · injection e3 with e5 e6
        exact (E.inj i j l ds ds1 hi (e5 ▸ e2)).symm.trans e4
      · exact E.inj j k l' ds1 ds2 e2 e3
/-- a slot forgotten -/
theorem Env.forget (E : Env K B H0 σ H Γ) (i : Nat) : Env K B H0 σ H (Γ.set i .emp) := by
  refine ⟨by rw [List.length_set]; exact E.len, fun j s q => ?_, E.ex, E.bnd, fun j l ds q => ?_, fun j k l ds ds' q r => ?_⟩
  · rcases set_get q with ⟨_, e2, _⟩ | ⟨_, e2⟩
    · subst e2; trivial
    · exact E.at_ j s e2
  · rcases set_get q with ⟨_, e2, _⟩ | ⟨_, e2⟩
    · cases e2
    · exact E.new j l ds e2
  · rcases set_get q with ⟨_, e2, _⟩ | ⟨_, e2⟩
    · cases e2
    · rcases set_get r with ⟨_, e3, _⟩ | ⟨_, e3⟩
      · cases e3
      · exact E.inj j k l ds ds' e2 e3
/-- a store of a mixer -/
theorem Env.setM (E : Env K B H0 σ H Γ) (i : Nat) {v : V} {C : Addr} {ss : List D} (h : MixV K (msk B H) C v ss) : Env K B H0 (σ.set i (some v)) H (Γ.set i (.mix C ss)) := by
  refine ⟨by rw [List.length_set, List.length_set]; exact E.len, fun j s q => ?_, E.ex, E.bnd, fun j l ds q => ?_, fun j k l ds ds' q r => ?_⟩
  · rcases set_get q with ⟨e1, e2, e3⟩ | ⟨e1, e2⟩
    · subst e1 e2
      exact ⟨v, by rw [List.getElem?_set_self (by rw [E.len]; exact e3)], h⟩
    · rw [List.getElem?_set_ne e1]; exact E.at_ j s e2
  · rcases set_get q with ⟨_, e2, _⟩ | ⟨_, e2⟩
    · cases e2
    · exact E.new j l ds e2
  · rcases set_get q with ⟨_, e2, _⟩ | ⟨_, e2⟩
    · cases e2
    · rcases set_get r with ⟨_, e3, _⟩ | ⟨_, e3⟩
      · cases e3
      · exact E.inj j k l ds ds' e2 e3
/-- what no data names is changed -/
theorem Env.poke (E : Env K B H0 σ H Γ) {x : Addr} {o : HO} (hx : x ∈ B) (hn : ∀ (i : Nat) ds, Γ[i]? ≠ some (.own x ds)) : Env K B (msk [x] H0) σ (upd H x o) Γ := by
  have em : msk B (upd H x o) = msk B H := msk_upd hx
  refine ⟨E.len, fun j s q => ?_, fun a u q => ?_, fun b hb => ?_, fun i l ds q => ?_, E.inj⟩
  · have y := E.at_ j s q
    cases s with
    | emp => trivial
    | dat d => obtain ⟨v, h1, h2⟩ := y; exact ⟨v, h1, by rw [em]; exact h2⟩
    | mix C ss => obtain ⟨v, h1, h2⟩ := y; exact ⟨v, h1, by rw [em]; exact h2⟩
    | own l ds =>
      obtain ⟨h1, h2, vs, h3, h4⟩ := y
      have ne : l ≠ x := fun e => hn j ds (e ▸ q)
      exact ⟨h1, h2, vs, by rw [upd_ne ne]; exact h3, by rw [em]; exact h4⟩
    | raw v => exact y
  · obtain ⟨n, q⟩ := msk_some q
    rw [upd_ne fun z => n (by rw [z]; exact List.mem_singleton.mpr rfl)]
    exact E.ex a u q
  · by_cases e : b = x
    · exact ⟨_, by rw [e]; exact upd_same⟩
    · obtain ⟨u, q⟩ := E.bnd b hb
      exact ⟨u, by rw [upd_ne e]; exact q⟩
  · have := E.new i l ds q
    unfold msk
    split
    · rfl
    · exact this
/-- an own list becomes data -/
theorem Env.freeze (E : Env K B H0 σ H Γ) {i : Nat} {l : Addr} {ds : List D} {B' : List Addr} (hi : Γ[i]? = some (.own l ds)) (hl : l ∉ B') (hs : ∀ b ∈ B', b ∈ B) (ho : ∀ (j : Nat) l' ds', j ≠ i → Γ[j]? = some (.own l' ds') → l' ∈ B') : Env K B' H0 σ H (Γ.set i (.dat (.list ds))) := by
  have E1 := E.forget i
  have E2 : Env K B' H0 σ H (Γ.set i .emp) := E1.less hs fun j l' ds' q => by
    rcases set_get q with ⟨_, e2, _⟩ | ⟨e1, e2⟩
    · cases e2
    · exact ho j l' ds' (Ne.symm e1) e2
  obtain ⟨z1, z2, vs, z3, z4⟩ := E.at_ i _ hi
  have hd : Dp K (msk B' H) (.ref l) (.list ds) := .lst (.inl (.inl (by rw [msk_out hl]; exact z3))) (z4.ex (msk_sub hs))
  have E3 := E2.setD i hd
  rw [List.set_set] at E3
  have e : σ.set i (some (V.ref l)) = σ := by
    apply List.ext_getElem?
    intro j
    by_cases hj : i = j
    · subst hj
      rw [z1]
      have : i < σ.length := (List.getElem?_eq_some_iff.mp z1).1
      rw [List.getElem?_set_self this]
    · rw [List.getElem?_set_ne hj]
  rw [e] at E3
  exact E3
end
end WS
/-! The layer by data: expressions. -/
namespace WS
open PySem PySem.Spec PyProof.Rows L2
section
variable {K : PySem.W.Frag} {B : List Addr} {H0 H H' H1 H2 : Hp} {σ : L2.St} {Γ Γ' : List Sl} {te ta tb tc : TE} {tt tu : TT} {tr : TA} {d d1 d2 d3 : D} {ds es : List D}
def Bnd (B : List Addr) (H : Hp) : Prop := ∀ b ∈ B, ∃ o, H b = some o
theorem Bnd.ex (h : Bnd B H) (e : Same H H') : Bnd B H' := fun b hb => let ⟨o, q⟩ := h b hb; ⟨o, e _ _ q⟩
theorem Bnd.nin (h : Bnd B H) {l : Addr} (q : H l = none) : l ∉ B := fun z => by
  obtain ⟨o, q'⟩ := h l z
  rw [q] at q'; cases q'
/-- an expression's worth -/
def DE (K : PySem.W.Frag) (B : List Addr) (te : TE) (Γ : List Sl) (d : D) : Prop := ∀ (H0 : Hp) (σ : L2.St) (H : Hp), Env K B H0 σ H Γ → ∀ Q : VK, (∀ v H', Same H H' → Dp K (msk B H') v d → Q v H') → te σ H Q
def DT (K : PySem.W.Frag) (B : List Addr) (tt : TT) (Γ : List Sl) (b : Bool) : Prop := ∀ (H0 : Hp) (σ : L2.St) (H : Hp), Env K B H0 σ H Γ → ∀ Q : Bool → Hp → Prop, (∀ H', Same H H' → Q b H') → tt σ H Q
def DA (K : PySem.W.Frag) (B : List Addr) (ta : TA) (Γ : List Sl) (ds : List D) : Prop := ∀ (H0 : Hp) (σ : L2.St) (H : Hp), Env K B H0 σ H Γ → ∀ Q : List V → Hp → Prop, (∀ vs H', Same H H' → DpAll K (msk B H') vs ds → Q vs H') → ta σ H Q
/-- a new list -/
def DL (K : PySem.W.Frag) (B : List Addr) (te : TE) (Γ : List Sl) (ds : List D) : Prop := ∀ (H0 : Hp) (σ : L2.St) (H : Hp), Env K B H0 σ H Γ → ∀ Q : VK, (∀ l vs H', H l = none → Same H H' → H' l = some (.lst vs) → DpAll K (msk (l :: B) H') vs ds → Q (.ref l) H') → te σ H Q
theorem DE.is (h : DE K B te Γ d) (e : d = d1) : DE K B te Γ d1 := e ▸ h
theorem DT.is {a b : Bool} (h : DT K B tt Γ a) (e : a = b) : DT K B tt Γ b := e ▸ h
theorem DL.is (h : DL K B te Γ ds) (e : ds = es) : DL K B te Γ es := e ▸ h
theorem DA.is {ta : TA} (h : DA K B ta Γ ds) (e : ds = es) : DA K B ta Γ es := e ▸ h
theorem DL.de (h : DL K B te Γ ds) : DE K B te Γ (.list ds) := fun H0 σ H E Q q => h H0 σ H E Q fun l vs H' hl e hv ha => q _ _ e (by
  have hn := E.nin hl
  exact .lst (.inl (.inl (by rw [msk_out hn]; exact hv))) (ha.ex (msk_sub fun b hb => List.mem_cons_of_mem _ hb)))
theorem Env.bd (E : Env K B H0 σ H Γ) : Bnd B H := E.bnd
theorem de_var {i : Nat} (h : Γ[i]? = some (.dat d)) : DE K B (tVar i) Γ d := fun H0 σ H E Q q => by
  obtain ⟨v, h1, h2⟩ := E.at_ i _ h
  exact ⟨v, h1, q v H (Same.refl H) h2⟩
theorem de_int {i : Int} : DE K B (tC (.int i)) Γ (.int i) := fun _ _ H _ _ q => q _ H (Same.refl H) (.int i)
theorem de_bl {i : Bool} : DE K B (tC (.bl i)) Γ (.bool i) := fun _ _ H _ _ q => q _ H (Same.refl H) (.bl i)
theorem de_str {i : Str} : DE K B (tC (.str i)) Γ (.str i) := fun _ _ H _ _ q => q _ H (Same.refl H) (.str i)
theorem de_non : DE K B (tC .non) Γ .none := fun _ _ H _ _ q => q _ H (Same.refl H) .non
/-! ### arguments, tuples, lists -/
theorem da_nil : DA K B tNil Γ [] := fun _ _ H _ _ q => q _ H (Same.refl H) .nil
theorem da_cons (h : DE K B te Γ d) (hr : DA K B tr Γ ds) : DA K B (tCons te tr) Γ (d :: ds) := fun H0 σ H E _ q =>
  h H0 σ H E _ fun v H1 e1 hv => hr H0 σ H1 (E.grow e1) _ fun vs H2 e2 hvs => q _ H2 (e1.trans e2) (.cons (hv.ex (msk_ex e2)) hvs)
theorem big1000 {n : Nat} (h : n ≤ 1000) : n ≤ sizeLine := Nat.le_of_lt (small1000 h)
theorem de_tup (h : DA K B tr Γ ds) (hl : ds.length ≤ 1000) : DE K B (tTup tr) Γ (.tuple ds) := fun H0 σ H E _ q =>
  h H0 σ H E _ fun vs H1 e1 hv => ⟨by rw [hv.len]; exact big1000 hl, fun p hp => q _ _ (e1.trans (same_new hp)) (by
    have hn := (E.bd.ex e1).nin hp
    exact .tup (.inl (.inl (by rw [msk_out hn]; exact upd_same))) (hv.ex (msk_ex (same_new hp))))⟩
theorem dl_lst (h : DA K B tr Γ ds) (hl : ds.length ≤ 1000) : DL K B (tLst tr) Γ ds := fun H0 σ H E _ q =>
  h H0 σ H E _ fun vs H1 e1 hv => ⟨by rw [hv.len]; exact big1000 hl, fun p hp => q p vs _ (e1.free hp) (e1.trans (same_new hp)) upd_same (by
    rw [msk_upd List.mem_cons_self, msk_none hp]; exact hv)⟩
/-! ### operators -/
def OpD (K : PySem.W.Frag) (B : List Addr) (r : R2) (d1 d2 d : D) : Prop := ∀ (H : Hp) (x y : V) (Q : VK), Bnd B H → Dp K (msk B H) x d1 → Dp K (msk B H) y d2 → (∀ v H', Same H H' → Dp K (msk B H') v d → Q v H') → r x y H Q
def OpL (K : PySem.W.Frag) (B : List Addr) (r : R2) (d1 d2 : D) (ds : List D) : Prop := ∀ (H : Hp) (x y : V) (Q : VK), Bnd B H → Dp K (msk B H) x d1 → Dp K (msk B H) y d2 → (∀ l vs H', H l = none → Same H H' → H' l = some (.lst vs) → DpAll K (msk (l :: B) H') vs ds → Q (.ref l) H') → r x y H Q
theorem de_op {r : R2} (ha : DE K B ta Γ d1) (hb : DE K B tb Γ d2) (hr : OpD K B r d1 d2 d) : DE K B (tOp r ta tb) Γ d := fun H0 σ H E Q q =>
  ha H0 σ H E _ fun x H1 e1 hx => hb H0 σ H1 (E.grow e1) _ fun y H2 e2 hy => hr H2 x y Q ((E.grow e1).grow e2).bd (hx.ex (msk_ex e2)) hy fun v H3 e3 hv => q v H3 ((e1.trans e2).trans e3) hv
theorem dl_op {r : R2} (ha : DE K B ta Γ d1) (hb : DE K B tb Γ d2) (hr : OpL K B r d1 d2 ds) : DL K B (tOp r ta tb) Γ ds := fun H0 σ H E Q q =>
  ha H0 σ H E _ fun x H1 e1 hx => hb H0 σ H1 (E.grow e1) _ fun y H2 e2 hy => hr H2 x y Q ((E.grow e1).grow e2).bd (hx.ex (msk_ex e2)) hy fun l vs H3 hl e3 hv ha => q l vs H3 ((e1.trans e2).free hl) ((e1.trans e2).trans e3) hv ha
theorem od_l {r r' : R2} (h : OpD K B r d1 d2 d) : OpD K B (fun x y H Q => r x y H Q ∨ r' x y H Q) d1 d2 d := fun H x y Q a b c q => .inl (h H x y Q a b c q)
theorem od_r {r r' : R2} (h : OpD K B r' d1 d2 d) : OpD K B (fun x y H Q => r x y H Q ∨ r' x y H Q) d1 d2 d := fun H x y Q a b c q => .inr (h H x y Q a b c q)
theorem ol_r {r r' : R2} (h : OpL K B r' d1 d2 ds) : OpL K B (fun x y H Q => r x y H Q ∨ r' x y H Q) d1 d2 ds := fun H x y Q a b c q => .inr (h H x y Q a b c q)
theorem od_i0 {f : Int → Int → Int} {i j : Int} : OpD K B (rI0 fun i j => .int (f i j)) (.int i) (.int j) (.int (f i j)) := fun H x y Q _ hx hy q => ⟨i, j, hx.int_inv, hy.int_inv, q _ H (Same.refl H) (.int _)⟩
theorem od_b0 {f : Int → Int → Bool} {i j : Int} : OpD K B (rI0 fun i j => .bl (f i j)) (.int i) (.int j) (.bool (f i j)) := fun H x y Q _ hx hy q => ⟨i, j, hx.int_inv, hy.int_inv, q _ H (Same.refl H) (.bl _)⟩
theorem od_i {C : Int → Int → Prop} {f : Int → Int → Int} {i j : Int} (hc : C i j) : OpD K B (rI C fun i j => .int (f i j)) (.int i) (.int j) (.int (f i j)) := fun H x y Q _ hx hy q => ⟨i, j, hx.int_inv, hy.int_inv, hc, q _ H (Same.refl H) (.int _)⟩
theorem od_eq (hd : SeqAt.shaped d1 = true) (he : SeqAt.shaped d2 = true) : OpD K B (rEqD K) d1 d2 (.bool (PyData.eqv d1 d2)) := fun H x y Q _ hx hy q => ⟨d1, d2, hx.ex msk_le, hy.ex msk_le, hd, he, q _ H (Same.refl H) (.bl _)⟩
theorem od_ne (hd : SeqAt.shaped d1 = true) (he : SeqAt.shaped d2 = true) : OpD K B (rNeD K) d1 d2 (.bool (!PyData.eqv d1 d2)) := fun H x y Q _ hx hy q => ⟨d1, d2, hx.ex msk_le, hy.ex msk_le, hd, he, q _ H (Same.refl H) (.bl _)⟩
theorem atI_nat' {α : Type} {xs : List α} {i : Int} {v : α} (h : atI xs i = some v) : ∃ j : Nat, xs[j]? = some v ∧ ∀ {β : Type} {ys : List β} {u : β}, ys.length = xs.length → ys[j]? = some u → atI ys i = some u := by
  unfold atI at h
  cases e : ixN xs.length i with
  | none => rw [e] at h; cases h
  | some j =>
    rw [e] at h
    refine ⟨j, h, fun {β ys u} hl hu => ?_⟩
    unfold atI
    rw [hl, e]
    exact hu
theorem od_ixL {i : Int} (h : atI ds i = some d) : OpD K B (rIx K) (.list ds) (.int i) d := fun H x y Q _ hx hy q => by
  obtain ⟨a, vs, e1, e2, e3⟩ := hx.list_inv
  obtain ⟨j, h1, h2⟩ := atI_nat' h
  obtain ⟨v, h3, h4⟩ := e3.get h1
  exact .inl ⟨a, vs, i, v, e1, hy.int_inv, msk_le.seq e2, h2 e3.len h3, q v H (Same.refl H) h4⟩
theorem od_ixT {i : Int} (h : atI ds i = some d) : OpD K B (rIx K) (.tuple ds) (.int i) d := fun H x y Q _ hx hy q => by
  obtain ⟨a, vs, e1, e2, e3⟩ := hx.tup_inv
  obtain ⟨j, h1, h2⟩ := atI_nat' h
  obtain ⟨v, h3, h4⟩ := e3.get h1
  exact .inr (.inl ⟨a, vs, i, v, e1, hy.int_inv, sqT_ex msk_le e2, h2 e3.len h3, q v H (Same.refl H) h4⟩)
/-- an item of a list of one's own -/
theorem de_ixOwn {i : Nat} {l : Addr} {j : Int} (hi : Γ[i]? = some (.own l ds)) (hb : DE K B tb Γ (.int j)) (h : atI ds j = some d) : DE K B (tOp (rIx K) (tVar i) tb) Γ d := fun H0 σ H E Q q => by
  obtain ⟨z1, z2, vs, z3, z4⟩ := E.at_ i _ hi
  refine ⟨_, z1, hb H0 σ H E _ fun y H1 e1 hy => ?_⟩
  obtain ⟨k, h1, h2⟩ := atI_nat' h
  obtain ⟨v, h3, h4⟩ := z4.get h1
  exact .inl ⟨l, vs, j, v, rfl, hy.int_inv, SqL.of (e1 _ _ z3), h2 z4.len h3, q v H1 e1 (h4.ex (msk_ex e1))⟩
theorem od_isN : OpD K B (fun x y H Q => y = .non ∧ Q (.bl (decide (x = .non))) H) d1 .none (.bool (match d1 with | .none => true | _ => false)) := fun H x y Q _ hx hy q => ⟨hy.non_inv, by
  refine q _ H (Same.refl H) ?_
  cases hx <;> first | exact .bl _ | (rw [decide_eq_false (by intro z; cases z)]; exact .bl _)⟩
/-- lists put together -/
def rCatS (K : PySem.W.Frag) : R2 := fun x y H Q => ∃ l b xs zs, x = .ref l ∧ y = .ref b ∧ SqL K H l xs ∧ SqL K H b zs ∧ xs.length + zs.length ≤ sizeLine ∧ ∀ p, H p = none → Q (.ref p) (upd H p (.lst (xs ++ zs)))
theorem ol_cat (h : ds.length + es.length ≤ 1000) : OpL K B (rCatS K) (.list ds) (.list es) (ds ++ es) := fun H x y Q hb hx hy q => by
  obtain ⟨a, vs, e1, e2, e3⟩ := hx.list_inv
  obtain ⟨c, ws, g1, g2, g3⟩ := hy.list_inv
  refine ⟨a, c, vs, ws, e1, g1, msk_le.seq e2, msk_le.seq g2, by rw [e3.len, g3.len]; exact big1000 h, fun p hp => q p _ _ hp (same_new hp) upd_same ?_⟩
  rw [msk_upd List.mem_cons_self, msk_none hp]
  exact e3.app g3
theorem dl_catOwn {i : Nat} {l : Addr} (hi : Γ[i]? = some (.own l ds)) (hb : DE K B tb Γ (.list es)) (h : ds.length + es.length ≤ 1000) : DL K B (tOp (rCatS K) (tVar i) tb) Γ (ds ++ es) := fun H0 σ H E Q q => by
  obtain ⟨z1, z2, vs, z3, z4⟩ := E.at_ i _ hi
  refine ⟨_, z1, hb H0 σ H E _ fun y H1 e1 hy => ?_⟩
  obtain ⟨c, ws, g1, g2, g3⟩ := hy.list_inv
  refine ⟨l, c, vs, ws, rfl, g1, SqL.of (e1 _ _ z3), msk_le.seq g2, by rw [z4.len, g3.len]; exact big1000 h, fun p hp => q p _ _ (e1.free hp) (e1.trans (same_new hp)) upd_same ?_⟩
  rw [msk_upd List.mem_cons_self, msk_none hp]
  exact (z4.ex (msk_ex e1)).app g3
/-- a list, so many times -/
def rRepS (K : PySem.W.Frag) : R2 := fun x y H Q => ∃ l k xs, x = .ref l ∧ y = .int k ∧ SqL K H l xs ∧ -(2 ^ 63) ≤ k ∧ k < 2 ^ 63 ∧ xs.length * k.toNat ≤ sizeLine ∧
  ∀ p, H p = none → Q (.ref p) (upd H p (.lst (List.replicate k.toNat xs).flatten))
theorem ol_rep {k : Int} (h0 : 0 ≤ k) (h1 : k ≤ 1000) (h : ds.length * k.toNat ≤ 1000) : OpL K B (rRepS K) (.list ds) (.int k) (List.replicate k.toNat ds).flatten := fun H x y Q hb hx hy q => by
  obtain ⟨a, vs, e1, e2, e3⟩ := hx.list_inv
  refine ⟨a, k, vs, e1, hy.int_inv, msk_le.seq e2, by omega, by omega, by rw [e3.len]; exact big1000 h, fun p hp => q p _ _ hp (same_new hp) upd_same ?_⟩
  rw [msk_upd List.mem_cons_self, msk_none hp]
  exact e3.rep k.toNat
theorem de_un {r : V → Hp → VK → Prop} (ha : DE K B ta Γ d1) (hr : ∀ (H : Hp) (x : V) (Q : VK), Dp K (msk B H) x d1 → (∀ v, Dp K (msk B H) v d → Q v H) → r x H Q) : DE K B (tUn r ta) Γ d := fun H0 σ H E Q q =>
  ha H0 σ H E _ fun x H1 e1 hx => hr H1 x Q hx fun v hv => q v H1 e1 hv
theorem de_neg {i : Int} (ha : DE K B ta Γ (.int i)) : DE K B (tUn (rU fun i => .int (-i)) ta) Γ (.int (-i)) := de_un ha fun H x Q hx q => ⟨i, hx.int_inv, q _ (.int _)⟩
/-! ### tests -/
theorem dt_test {b : Bool} (h : DE K B te Γ (.bool b)) : DT K B (tTest te) Γ b := fun H0 σ H E Q q => h H0 σ H E _ fun v H1 e1 hv => ⟨b, hv.bl_inv, q H1 e1⟩
theorem dt_B {b : Bool} (h : DE K B te Γ (.bool b)) : DT K B (tB te) Γ b := fun H0 σ H E Q q => h H0 σ H E _ fun v H1 e1 hv => ⟨b, hv.bl_inv, q H1 e1⟩
theorem dt_not {b : Bool} (h : DT K B tt Γ b) : DT K B (tNot tt) Γ (!b) := fun H0 σ H E Q q => h H0 σ H E _ fun H1 e1 => q H1 e1
theorem dt_and {a b : Bool} (h : DT K B tt Γ a) (h2 : a = true → DT K B tu Γ b) : DT K B (tAnd tt tu) Γ (a && b) := fun H0 σ H E Q q => h H0 σ H E _ fun H1 e1 => by
  cases a with
  | true => exact h2 rfl H0 σ H1 (E.grow e1) Q fun H2 e2 => q H2 (e1.trans e2)
  | false => exact q H1 e1
theorem dt_or {a b : Bool} (h : DT K B tt Γ a) (h2 : a = false → DT K B tu Γ b) : DT K B (tOr tt tu) Γ (a || b) := fun H0 σ H E Q q => h H0 σ H E _ fun H1 e1 => by
  cases a with
  | true => exact q H1 e1
  | false => exact h2 rfl H0 σ H1 (E.grow e1) Q fun H2 e2 => q H2 (e1.trans e2)
theorem dt_andF (h : DT K B tt Γ false) : DT K B (tAnd tt tu) Γ false := dt_and (b := false) h fun z => nomatch z
theorem dt_orT (h : DT K B tt Γ true) : DT K B (tOr tt tu) Γ true := dt_or (b := false) h fun z => nomatch z
theorem de_andV {a b : Bool} (h : DE K B ta Γ (.bool a)) (h2 : a = true → DE K B tb Γ (.bool b)) : DE K B (tAndV ta tb) Γ (.bool (a && b)) := fun H0 σ H E Q q => h H0 σ H E _ fun v H1 e1 hv => ⟨a, hv.bl_inv, by
  cases a with
  | true => exact h2 rfl H0 σ H1 (E.grow e1) Q fun v H2 e2 hv => q v H2 (e1.trans e2) hv
  | false => exact q _ H1 e1 (.bl false)⟩
theorem de_orV {a b : Bool} (h : DE K B ta Γ (.bool a)) (h2 : a = false → DE K B tb Γ (.bool b)) : DE K B (tOrV ta tb) Γ (.bool (a || b)) := fun H0 σ H E Q q => h H0 σ H E _ fun v H1 e1 hv => ⟨a, hv.bl_inv, by
  cases a with
  | true => exact q _ H1 e1 (.bl true)
  | false => exact h2 rfl H0 σ H1 (E.grow e1) Q fun v H2 e2 hv => q v H2 (e1.trans e2) hv⟩
theorem de_notV {a : Bool} (h : DE K B ta Γ (.bool a)) : DE K B (tNotV ta) Γ (.bool (!a)) := fun H0 σ H E Q q => h H0 σ H E _ fun v H1 e1 hv => ⟨a, hv.bl_inv, q _ H1 e1 (.bl _)⟩
theorem de_if {b : Bool} (h : DT K B tt Γ b) (h1 : b = true → DE K B ta Γ d) (h2 : b = false → DE K B tb Γ d) : DE K B (tIf tt ta tb) Γ d := fun H0 σ H E Q q => h H0 σ H E _ fun H1 e1 => by
  cases b with
  | true => exact h1 rfl H0 σ H1 (E.grow e1) Q fun v H2 e2 hv => q v H2 (e1.trans e2) hv
  | false => exact h2 rfl H0 σ H1 (E.grow e1) Q fun v H2 e2 hv => q v H2 (e1.trans e2) hv
/-! ### calls -/
/-- a def's promise, by data: what it hands back for which data; what stood stays -/
def spD (K : PySem.W.Frag) (pre : List D → D → Prop) : Sp := fun vs H Q _ => ∃ (B : List Addr) (ds : List D) (r : D), Bnd B H ∧ DpAll K (msk B H) vs ds ∧ pre ds r ∧ ∀ v H', Same H H' → Dp K (msk B H') v r → Q v H'
theorem de_call {pre : List D → D → Prop} {E0 : XK} (h : DA K B tr Γ ds) (hp : pre ds d) : DE K B (tCall (spD K pre) [] E0 tr) Γ d := fun H0 σ H E Q q =>
  h H0 σ H E _ fun vs H1 e1 hv => ⟨B, ds, d, E.bd.ex e1, by rw [List.append_nil]; exact hv, hp, fun v H' e2 hd => q v H' (e1.trans e2) hd⟩
def CaD (K : PySem.W.Frag) (B : List Addr) (r : List V → Hp → VK → Prop) (ds : List D) (d : D) : Prop := ∀ (H : Hp) (vs : List V) (Q : VK), Bnd B H → DpAll K (msk B H) vs ds → (∀ v H', Same H H' → Dp K (msk B H') v d → Q v H') → r vs H Q
theorem de_cb {r : List V → Hp → VK → Prop} (h : DA K B tr Γ ds) (hr : CaD K B r ds d) : DE K B (tCB r tr) Γ d := fun H0 σ H E Q q =>
  h H0 σ H E _ fun vs H1 e1 hv => hr H1 vs Q (E.bd.ex e1) hv fun v H2 e2 hd => q v H2 (e1.trans e2) hd
theorem dpa1 {v : V} {vs : List V} (h : DpAll K H vs [d]) : ∃ v, vs = [v] ∧ Dp K H v d := by
  cases h with | cons a b => cases b; exact ⟨_, rfl, a⟩
theorem dpa_1 {vs : List V} (h : DpAll K H vs [d]) : ∃ v, vs = [v] ∧ Dp K H v d := by
  cases h with | cons a b => cases b; exact ⟨_, rfl, a⟩
theorem dpa_2 {vs : List V} (h : DpAll K H vs [d1, d2]) : ∃ v w, vs = [v, w] ∧ Dp K H v d1 ∧ Dp K H w d2 := by
  cases h with | cons a b => cases b with | cons a' b' => cases b'; exact ⟨_, _, rfl, a, a'⟩
theorem ca_lenL : CaD K B (fun xs H Q => ∃ p ys, xs = [.ref p] ∧ (SqL K H p ys ∨ SqT K H p ys) ∧ Q (.int ys.length) H) [.list ds] (.int ds.length) := fun H vs Q _ hv q => by
  obtain ⟨v, e, hv⟩ := dpa_1 hv
  obtain ⟨a, ws, e1, e2, e3⟩ := hv.list_inv
  exact ⟨a, ws, by rw [e, e1], .inl (msk_le.seq e2), q _ H (Same.refl H) (by rw [e3.len]; exact .int _)⟩
theorem ca_lenT : CaD K B (fun xs H Q => ∃ p ys, xs = [.ref p] ∧ (SqL K H p ys ∨ SqT K H p ys) ∧ Q (.int ys.length) H) [.tuple ds] (.int ds.length) := fun H vs Q _ hv q => by
  obtain ⟨v, e, hv⟩ := dpa_1 hv
  obtain ⟨a, ws, e1, e2, e3⟩ := hv.tup_inv
  exact ⟨a, ws, by rw [e, e1], .inr (sqT_ex msk_le e2), q _ H (Same.refl H) (by rw [e3.len]; exact .int _)⟩
theorem ca_abs {i : Int} : CaD K B (fun xs H Q => ∃ i, xs = [.int i] ∧ Q (.int (if i < 0 then -i else i)) H) [.int i] (.int (if i < 0 then -i else i)) := fun H vs Q _ hv q => by
  obtain ⟨v, e, hv⟩ := dpa_1 hv
  exact ⟨i, by rw [e, hv.int_inv], q _ H (Same.refl H) (.int _)⟩
theorem ca_intI {i : Int} : CaD K B (fun xs H Q => (∃ i, xs = [.int i] ∧ Q (.int i) H) ∨ ∃ k, xs = [.bl k] ∧ Q (.int (if k then 1 else 0)) H) [.int i] (.int i) := fun H vs Q _ hv q => by
  obtain ⟨v, e, hv⟩ := dpa_1 hv
  exact .inl ⟨i, by rw [e, hv.int_inv], q _ H (Same.refl H) (.int _)⟩
theorem ca_intB {k : Bool} : CaD K B (fun xs H Q => (∃ i, xs = [.int i] ∧ Q (.int i) H) ∨ ∃ k, xs = [.bl k] ∧ Q (.int (if k then 1 else 0)) H) [.bool k] (.int (if k then 1 else 0)) := fun H vs Q _ hv q => by
  obtain ⟨v, e, hv⟩ := dpa_1 hv
  exact .inr ⟨k, by rw [e, hv.bl_inv], q _ H (Same.refl H) (.int _)⟩
theorem ca_min2 {i j : Int} : CaD K B (fun xs H Q => ∃ i j, xs = [.int i, .int j] ∧ Q (.int (if j < i then j else i)) H) [.int i, .int j] (.int (if j < i then j else i)) := fun H vs Q _ hv q => by
  obtain ⟨v, w, e, hv, hw⟩ := dpa_2 hv
  exact ⟨i, j, by rw [e, hv.int_inv, hw.int_inv], q _ H (Same.refl H) (.int _)⟩
theorem ca_sum {ns : List Int} : CaD K B (rSum K) [.list (ns.map PyData.int)] (.int ns.sum) := fun H vs Q _ hv q => by
  obtain ⟨v, e, hv⟩ := dpa_1 hv
  obtain ⟨a, ws, e1, e2, e3⟩ := hv.list_inv
  rw [e3.ints] at e2
  exact ⟨a, ns, by rw [e, e1], msk_le.seq e2, q _ H (Same.refl H) (.int _)⟩
theorem ca_min {ns : List Int} {m : Int} (h1 : m ∈ ns) (h2 : ∀ y ∈ ns, m ≤ y) : CaD K B (rMin K) [.list (ns.map PyData.int)] (.int m) := fun H vs Q _ hv q => by
  obtain ⟨v, e, hv⟩ := dpa_1 hv
  obtain ⟨a, ws, e1, e2, e3⟩ := hv.list_inv
  rw [e3.ints] at e2
  refine ⟨a, ns, by rw [e, e1], msk_le.seq e2, List.length_pos_of_mem h1, fun m' a b => ?_⟩
  have : m' = m := Int.le_antisymm (b m h1) (h2 m' a)
  exact q _ H (Same.refl H) (by rw [this]; exact .int _)
theorem ca_max {ns : List Int} {m : Int} (h1 : m ∈ ns) (h2 : ∀ y ∈ ns, y ≤ m) : CaD K B (rMax K) [.list (ns.map PyData.int)] (.int m) := fun H vs Q _ hv q => by
  obtain ⟨v, e, hv⟩ := dpa_1 hv
  obtain ⟨a, ws, e1, e2, e3⟩ := hv.list_inv
  rw [e3.ints] at e2
  refine ⟨a, ns, by rw [e, e1], msk_le.seq e2, List.length_pos_of_mem h1, fun m' a b => ?_⟩
  have : m' = m := Int.le_antisymm (h2 m' a) (b m h1)
  exact q _ H (Same.refl H) (by rw [this]; exact .int _)
abbrev rListOf (K : PySem.W.Frag) : List V → Hp → VK → Prop := fun xs H Q => ∃ p ys, xs = [.ref p] ∧ (SqL K H p ys ∨ SqT K H p ys) ∧ ∀ l, H l = none → Q (.ref l) (upd H l (.lst ys))
theorem dl_listL (h : DE K B te Γ (.list ds)) : DL K B (tCB (rListOf K) (tCons te tNil)) Γ ds := fun H0 σ H E Q q =>
  h H0 σ H E _ fun v H1 e1 hv => by
    obtain ⟨a, ws, g1, g2, g3⟩ := hv.list_inv
    refine ⟨a, ws, by rw [g1], .inl (msk_le.seq g2), fun l hl => q l _ _ (e1.free hl) (e1.trans (same_new hl)) upd_same ?_⟩
    rw [msk_upd List.mem_cons_self, msk_none hl]; exact g3
theorem dl_listT (h : DE K B te Γ (.tuple ds)) : DL K B (tCB (rListOf K) (tCons te tNil)) Γ ds := fun H0 σ H E Q q =>
  h H0 σ H E _ fun v H1 e1 hv => by
    obtain ⟨a, ws, g1, g2, g3⟩ := hv.tup_inv
    refine ⟨a, ws, by rw [g1], .inr (sqT_ex msk_le g2), fun l hl => q l _ _ (e1.free hl) (e1.trans (same_new hl)) upd_same ?_⟩
    rw [msk_upd List.mem_cons_self, msk_none hl]; exact g3
abbrev rTupleOf (K : PySem.W.Frag) : List V → Hp → VK → Prop := fun xs H Q => ∃ p ys, xs = [.ref p] ∧ ((SqL K H p ys ∧ ∀ l, H l = none → Q (.ref l) (upd H l (.tup ys))) ∨ (SqT K H p ys ∧ Q (.ref p) H))
theorem ca_tupleL : CaD K B (rTupleOf K) [.list ds] (.tuple ds) := fun H vs Q hb hv q => by
  obtain ⟨v, e, hv⟩ := dpa_1 hv
  obtain ⟨a, ws, g1, g2, g3⟩ := hv.list_inv
  refine ⟨a, ws, by rw [e, g1], .inl ⟨msk_le.seq g2, fun l hl => q _ _ (same_new hl) ?_⟩⟩
  have hn := hb.nin hl
  exact .tup (.inl (.inl (by rw [msk_out hn]; exact upd_same))) (g3.ex (msk_ex (same_new hl)))
theorem ca_tupleT : CaD K B (rTupleOf K) [.tuple ds] (.tuple ds) := fun H vs Q hb hv q => by
  obtain ⟨v, e, hv⟩ := dpa_1 hv
  obtain ⟨a, ws, g1, g2, g3⟩ := hv.tup_inv
  exact ⟨a, ws, by rw [e, g1], .inr ⟨sqT_ex msk_le g2, q _ H (Same.refl H) (g1 ▸ hv)⟩⟩
/-! ### isinstance of data -/
def tyN : D → String
  | .none => "NoneType"
  | .bool _ => "bool"
  | .int _ => "int"
  | .str _ => "str"
  | .list _ => "list"
  | .tuple _ => "tuple"
  | .dict _ => "dict"
theorem tyx_of {v : V} (h : Dp K H v d) : TyX K H v (.type (tyN d)) := by
  cases h with
  | non => exact .base .non
  | bl b => exact .base (.bl b)
  | int i => exact .base (.int i)
  | str x => exact .base (.str x)
  | lst hs ha =>
    rcases hs with (h | ⟨o, h⟩) | ⟨o, its, n, h, c, _⟩
    · exact .base (.lst h)
    · exact .base (.frz h)
    · exact .kList h c
  | tup hs ha =>
    rcases hs with (h | ⟨o, h⟩) | ⟨o, its, n, h, c, _⟩
    · exact .base (.tup h)
    · exact .fTuple h
    · exact .kTuple h c
theorem de_isi {n : String} {b : Bool} (h : DE K B te Γ d) (e : kitB (tyN d) n = some b) : DE K B (tCB (rIsi K) (tCons te (tCons (tC (.ty n)) tNil))) Γ (.bool b) := fun H0 σ H E Q q =>
  h H0 σ H E _ fun v H1 e1 hv => ⟨v, .ty n, _, _, b, rfl, .ty n, tyx_of (hv.ex msk_le), kit_ty e, q _ H1 e1 (.bl b)⟩
/-! ### slices -/
def DO (K : PySem.W.Frag) (B : List Addr) (to : TO) (Γ : List Sl) (o : Option Int) : Prop := ∀ (H0 : Hp) (σ : L2.St) (H : Hp), Env K B H0 σ H Γ → ∀ Q : Option Int → Hp → Prop, (∀ H', Same H H' → Q o H') → to σ H Q
theorem do_none : DO K B tNoPart Γ none := fun _ _ H _ _ q => q H (Same.refl H)
theorem do_some {i : Int} (h : DE K B te Γ (.int i)) : DO K B (tPart te) Γ (some i) := fun H0 σ H E Q q => h H0 σ H E _ fun v H1 e1 hv => ⟨i, hv.int_inv, q H1 e1⟩
def cutD (xs : List D) (lo hi : Option Int) : List D := (xs.drop (HT.sIx xs.length 0 lo)).take (HT.sIx xs.length xs.length hi - HT.sIx xs.length 0 lo)
theorem DpAll.cut {vs : List V} (h : DpAll K H vs ds) (lo hi : Option Int) : DpAll K H (cutV vs lo hi) (cutD ds lo hi) := by
  unfold cutV cutD
  rw [h.len]
  exact (h.drop _).take _
theorem dl_sl {tl th : TO} {lo hi : Option Int} (h : DE K B te Γ (.list ds)) (h1 : DO K B tl Γ lo) (h2 : DO K B th Γ hi) : DL K B (tSl (rSlL K) te tl th) Γ (cutD ds lo hi) := fun H0 σ H E Q q =>
  h H0 σ H E _ fun v H1 e1 hv => h1 H0 σ H1 (E.grow e1) _ fun H2 e2 => h2 H0 σ H2 ((E.grow e1).grow e2) _ fun H3 e3 => by
    obtain ⟨a, ws, g1, g2, g3⟩ := hv.list_inv
    have e23 : Same H1 H3 := e2.trans e3
    refine ⟨a, ws, g1, e23.seq (msk_le.seq g2), fun l hl => q l _ _ ((e1.trans e23).free hl) ((e1.trans e23).trans (same_new hl)) upd_same ?_⟩
    rw [msk_upd List.mem_cons_self, msk_none hl]
    exact DpAll.cut (g3.ex (msk_ex e23)) lo hi
theorem de_slT {tl th : TO} {lo hi : Option Int} (h : DE K B te Γ (.tuple ds)) (h1 : DO K B tl Γ lo) (h2 : DO K B th Γ hi) (hn : ¬ (HT.sIx ds.length 0 lo = 0 ∧ HT.sIx ds.length ds.length hi = ds.length)) : DE K B (tSl (rSlT K) te tl th) Γ (.tuple (cutD ds lo hi)) := fun H0 σ H E Q q =>
  h H0 σ H E _ fun v H1 e1 hv => h1 H0 σ H1 (E.grow e1) _ fun H2 e2 => h2 H0 σ H2 ((E.grow e1).grow e2) _ fun H3 e3 => by
    obtain ⟨a, ws, g1, g2, g3⟩ := hv.tup_inv
    have e23 : Same H1 H3 := e2.trans e3
    refine ⟨a, ws, g1, sqT_ex e23 (sqT_ex msk_le g2), by rw [g3.len]; exact hn, fun l hl => q _ _ ((e1.trans e23).trans (same_new hl)) ?_⟩
    have hn := (E.bd.ex (e1.trans e23)).nin hl
    exact .tup (.inl (.inl (by rw [msk_out hn]; exact upd_same))) (DpAll.cut ((g3.ex (msk_ex e23)).ex (msk_ex (same_new hl))) lo hi)
theorem dl_rev (h : DE K B te Γ (.list ds)) : DL K B (tRevL K te) Γ ds.reverse := fun H0 σ H E Q q =>
  h H0 σ H E _ fun v H1 e1 hv => by
    obtain ⟨a, ws, g1, g2, g3⟩ := hv.list_inv
    refine ⟨a, ws, g1, msk_le.seq g2, fun l hl => q l _ _ (e1.free hl) (e1.trans (same_new hl)) upd_same ?_⟩
    rw [msk_upd List.mem_cons_self, msk_none hl]
    exact g3.rev
theorem dl_revOwn {i : Nat} {l : Addr} (hi : Γ[i]? = some (.own l ds)) : DL K B (tRevL K (tVar i)) Γ ds.reverse := fun H0 σ H E Q q => by
  obtain ⟨z1, z2, vs, z3, z4⟩ := E.at_ i _ hi
  refine ⟨_, z1, l, vs, rfl, SqL.of z3, fun p hp => q p _ _ hp (same_new hp) upd_same ?_⟩
  rw [msk_upd List.mem_cons_self, msk_none hp]
  exact z4.rev
end
end WS
/-! The layer by data: walks, comprehensions, statements. -/
namespace WS
open PySem PySem.Spec PyProof.Rows L2
section
variable {K : PySem.W.Frag} {B : List Addr} {H0 H H' H1 H2 : Hp} {σ : L2.St} {Γ Γ' : List Sl} {te ta tb tc : TE} {tt tu : TT} {tr : TA} {d d1 d2 d3 : D} {ds es : List D}
/-! ### walks -/
structure JOk (K : PySem.W.Frag) (B : List Addr) (H1 : Hp) (J : It) (ds : List D) : Prop where
  go : ∀ (B' : List Addr) (H2 : Hp), Same (msk B H1) (msk B' H2) → Bnd B' H2 → ∀ (i : Nat) (d : D), ds[i]? = some d → J.go i H2 ∧ ∀ x H', J.yld i H2 x H' → Same H2 H' ∧ Dp K (msk B' H') x d
  stop : ∀ (B' : List Addr) (H2 : Hp), Same (msk B H1) (msk B' H2) → Bnd B' H2 → J.stop ds.length H2
def DI (K : PySem.W.Frag) (B : List Addr) (wi : TI) (Γ : List Sl) (ds : List D) : Prop := ∀ (H0 : Hp) (σ : L2.St) (H : Hp), Env K B H0 σ H Γ → ∀ R : It → Hp → Prop, (∀ J H1, Same H H1 → JOk K B H1 J ds → R J H1) → wi σ H R
theorem DI.is {wi : TI} (h : DI K B wi Γ ds) (e : ds = es) : DI K B wi Γ es := e ▸ h
theorem get_len {α : Type} {l : List α} {i : Nat} {x : α} (h : l[i]? = some x) : i < l.length := (List.getElem?_eq_some_iff.mp h).1
theorem di_list {tl : TE} (h : DE K B tl Γ (.list ds)) : DI K B (iList K tl) Γ ds := fun H0 σ H E R q =>
  h H0 σ H E _ fun v H1 e1 hv => by
    obtain ⟨a, vs, g1, g2, g3⟩ := hv.list_inv
    refine ⟨a, g1, ⟨vs, msk_le.seq g2⟩, q _ H1 e1 ⟨fun B' H2 e hb i d hd => ?_, fun B' H2 e hb => ⟨vs, msk_le.seq (e.seq g2), Nat.le_of_eq g3.len⟩⟩⟩
    obtain ⟨w, h1, h2⟩ := g3.get hd
    have hs : SqL K H2 a vs := msk_le.seq (e.seq g2)
    refine ⟨⟨vs, w, hs, h1⟩, fun x H' y => ?_⟩
    obtain ⟨rfl, fx⟩ := y
    have := fx vs hs
    rw [h1] at this
    cases this
    exact ⟨Same.refl _, h2.ex e⟩
theorem di_tup {tl : TE} (h : DE K B tl Γ (.tuple ds)) : DI K B (iTup K tl) Γ ds := fun H0 σ H E R q =>
  h H0 σ H E _ fun v H1 e1 hv => by
    obtain ⟨a, vs, g1, g2, g3⟩ := hv.tup_inv
    refine ⟨a, g1, ⟨vs, sqT_ex msk_le g2⟩, q _ H1 e1 ⟨fun B' H2 e hb i d hd => ?_, fun B' H2 e hb => ⟨vs, sqT_ex msk_le (sqT_ex e g2), Nat.le_of_eq g3.len⟩⟩⟩
    obtain ⟨w, h1, h2⟩ := g3.get hd
    have hs : SqT K H2 a vs := sqT_ex msk_le (sqT_ex e g2)
    refine ⟨⟨vs, w, hs, h1⟩, fun x H' y => ?_⟩
    obtain ⟨rfl, fx⟩ := y
    have := fx vs hs
    rw [h1] at this
    cases this
    exact ⟨Same.refl _, h2.ex e⟩
def rgD (lo : Int) (n : Nat) : List D := (List.range n).map fun i => .int (lo + (i : Nat))
theorem rgD_len (lo : Int) (n : Nat) : (rgD lo n).length = n := by unfold rgD; rw [List.length_map, List.length_range]
theorem rgD_get {lo : Int} {n i : Nat} {d : D} (h : (rgD lo n)[i]? = some d) : i < n ∧ d = .int (lo + (i : Nat)) := by
  have hl := get_len h
  rw [rgD_len] at hl
  unfold rgD at h
  rw [List.getElem?_map, List.getElem?_range hl] at h
  exact ⟨hl, (Option.some.inj h).symm⟩
theorem jok_rng {lo : Int} {n : Nat} : JOk K B H1 (Itr lo n) (rgD lo n) :=
  ⟨fun B' H2 e hb i d hd => by
    obtain ⟨h1, h2⟩ := rgD_get hd
    refine ⟨h1, fun x H' y => ?_⟩
    obtain ⟨rfl, rfl⟩ := y
    rw [h2]
    exact ⟨Same.refl _, .int _⟩, fun B' H2 e hb => Nat.le_of_eq (rgD_len lo n).symm⟩
theorem di_rng1 {n : Int} (h : DE K B te Γ (.int n)) (h1 : -(2 ^ 62) ≤ n) (h2 : n < 2 ^ 62) : DI K B (iRng1 (tCons te tNil)) Γ (rgD 0 n.toNat) := fun H0 σ H E R q =>
  h H0 σ H E _ fun v H1 e1 hv => ⟨n, by rw [hv.int_inv], h1, h2, q _ H1 e1 jok_rng⟩
theorem di_rng2 {lo n : Int} {tf : TE} (hl : DE K B tf Γ (.int lo)) (h : DE K B te Γ (.int n)) (h0 : -(2 ^ 62) ≤ lo ∧ lo < 2 ^ 62) (h1 : -(2 ^ 62) ≤ n) (h2 : n < 2 ^ 62) : DI K B (iRng2 (tCons tf (tCons te tNil))) Γ (rgD lo (n - lo).toNat) := fun H0 σ H E R q =>
  hl H0 σ H E _ fun u H1 e1 hu => h H0 σ H1 (E.grow e1) _ fun v H2 e2 hv => ⟨lo, n, by rw [hu.int_inv, hv.int_inv], ⟨h0.1, h0.2, h1, h2⟩, q _ H2 (e1.trans e2) jok_rng⟩
def enD (ds : List D) : List D := ds.mapIdx fun i d => .tuple [.int (i : Nat), d]
theorem enD_len : (enD ds).length = ds.length := by unfold enD; rw [List.length_mapIdx]
theorem enD_get {i : Nat} (h : (enD ds)[i]? = some d) : ∃ e, ds[i]? = some e ∧ d = .tuple [.int (i : Nat), e] := by
  unfold enD at h
  rw [List.getElem?_mapIdx] at h
  cases q : ds[i]? with
  | none => rw [q] at h; cases h
  | some e => rw [q] at h; exact ⟨e, rfl, (Option.some.inj h).symm⟩
theorem di_enum {tl : TE} (h : DE K B tl Γ (.list ds)) : DI K B (iEnum K (tCons tl tNil)) Γ (enD ds) := fun H0 σ H E R q =>
  h H0 σ H E _ fun v H1 e1 hv => by
    obtain ⟨a, vs, g1, g2, g3⟩ := hv.list_inv
    refine ⟨a, vs, by rw [g1], msk_le.seq g2, q _ H1 e1 ⟨fun B' H2 e hb i d hd => ?_, fun B' H2 e hb => ⟨vs, msk_le.seq (e.seq g2), by rw [enD_len, g3.len]; exact Nat.le_refl _⟩⟩⟩
    obtain ⟨d', hd', rfl⟩ := enD_get hd
    obtain ⟨w, h1, h2⟩ := g3.get hd'
    have hs : SqL K H2 a vs := msk_le.seq (e.seq g2)
    refine ⟨⟨vs, w, hs, h1⟩, fun x H' y => ?_⟩
    obtain ⟨T, x', rfl, nT, rfl, fx⟩ := y
    have := fx vs hs
    rw [h1] at this
    cases this
    have hn := hb.nin nT
    exact ⟨same_new nT, .tup (.inl (.inl (by rw [msk_out hn]; exact upd_same))) (.cons (.int _) (.cons ((h2.ex e).ex (msk_ex (same_new nT))) .nil))⟩
/-! ### targets -/
def DG (K : PySem.W.Frag) (B : List Addr) (g : TG) (d : D) (Γ Γ' : List Sl) (vs : List Nat) : Prop := ∀ (H0 : Hp) (σ : L2.St) (H : Hp) (v : V), Env K B H0 σ H Γ → Dp K (msk B H) v d → ∀ R : L2.St → Hp → Prop, (∀ σ', Env K B H0 σ' H Γ' → wipe σ' vs = wipe σ vs → R σ' H) → g v σ H R
theorem wipe_set {σ : L2.St} {j : Nat} {x : Option V} : ∀ {vs : List Nat}, j ∈ vs → wipe (σ.set j x) vs = wipe σ vs
  | [], h => by cases h
  | k :: vs, h => by
    unfold wipe
    by_cases e : j ∈ vs
    · rw [wipe_set e]
    · have hk : j = k := by rcases List.mem_cons.mp h with z | z; exact z; exact absurd z e
      subst hk
      apply List.ext_getElem?
      intro i
      by_cases hi : j = i
      · subst hi
        by_cases hl : j < σ.length
        · rw [List.getElem?_set_self (by rw [wipe_length, List.length_set]; exact hl), List.getElem?_set_self (by rw [wipe_length]; exact hl)]
        · rw [List.getElem?_eq_none (by rw [List.length_set, wipe_length, List.length_set]; omega), List.getElem?_eq_none (by rw [List.length_set, wipe_length]; omega)]
      · rw [List.getElem?_set_ne hi, List.getElem?_set_ne hi]
        have key : ∀ vs : List Nat, (wipe (σ.set j x) vs)[i]? = (wipe σ vs)[i]? := by
          intro vs
          induction vs with
          | nil => exact List.getElem?_set_ne hi
          | cons w r ih =>
            unfold wipe
            by_cases hw : w = i
            · subst hw
              by_cases hl : w < σ.length
              · rw [List.getElem?_set_self (by rw [wipe_length, List.length_set]; exact hl), List.getElem?_set_self (by rw [wipe_length]; exact hl)]
              · rw [List.getElem?_eq_none (by rw [List.length_set, wipe_length, List.length_set]; omega), List.getElem?_eq_none (by rw [List.length_set, wipe_length]; omega)]
            · rw [List.getElem?_set_ne hw, List.getElem?_set_ne hw]; exact ih
        exact key vs
theorem wipe_wipe {σ : L2.St} : ∀ (us vs : List Nat), (∀ u ∈ us, u ∈ vs) → wipe (wipe σ us) vs = wipe σ vs
  | [], _, _ => rfl
  | u :: us, vs, h => by
    show wipe ((wipe σ us).set u none) vs = _
    rw [wipe_set (h u List.mem_cons_self), wipe_wipe us vs fun w hw => h w (List.mem_cons_of_mem _ hw)]
theorem dg_name {j : Nat} {vs : List Nat} (h : j ∈ vs) : DG K B (gName j) d Γ (Γ.set j (.dat d)) vs := fun H0 σ H v E hv R q => q _ (E.setD j hv) (wipe_set h)
def gPair (K : PySem.W.Frag) (j k : Nat) : TG := gTup K 2 (gCons (gName j) (gCons (gName k) gNil))
theorem dg_pair {j k : Nat} {vs : List Nat} (hj : j ∈ vs) (hk : k ∈ vs) : DG K B (gTup K 2 (gCons (gName j) (gCons (gName k) gNil))) (.tuple [d1, d2]) Γ ((Γ.set j (.dat d1)).set k (.dat d2)) vs := fun H0 σ H v E hv R q => by
  obtain ⟨a, ws, g1, g2, g3⟩ := hv.tup_inv
  obtain ⟨x, y, rfl, hx, hy⟩ := dpa_2 g3
  exact ⟨a, [x, y], g1, sqT_ex msk_le g2, rfl, x, [y], rfl, y, [], rfl, rfl, q _ ((E.setD j hx).setD k hy) (by rw [wipe_set hk, wipe_set hj])⟩
theorem dg_pairL {j k : Nat} {vs : List Nat} (hj : j ∈ vs) (hk : k ∈ vs) : DG K B (gUnl K 2 (gCons (gName j) (gCons (gName k) gNil))) (.list [d1, d2]) Γ ((Γ.set j (.dat d1)).set k (.dat d2)) vs := fun H0 σ H v E hv R q => by
  obtain ⟨a, ws, g1, g2, g3⟩ := hv.list_inv
  obtain ⟨x, y, rfl, hx, hy⟩ := dpa_2 g3
  exact ⟨a, [x, y], g1, msk_le.seq g2, rfl, x, [y], rfl, y, [], rfl, rfl, q _ ((E.setD j hx).setD k hy) (by rw [wipe_set hk, wipe_set hj])⟩
/-! ### comprehensions -/
def wipeG (Γ : List Sl) : List Nat → List Sl
  | [] => Γ
  | v :: vs => (wipeG Γ vs).set v .emp
theorem Env.forgetS (E : Env K B H0 σ H Γ) (i : Nat) : Env K B H0 (σ.set i none) H (Γ.set i .emp) := by
  have F := E.forget i
  refine ⟨by rw [List.length_set]; exact F.len, fun j s q => ?_, F.ex, F.bnd, F.new, F.inj⟩
  rcases set_get q with ⟨e1, e2, _⟩ | ⟨e1, e2⟩
  · subst e2; trivial
  · rw [List.getElem?_set_ne e1]; exact E.at_ j s e2
theorem Env.wiped (E : Env K B H0 σ H Γ) : ∀ vs : List Nat, Env K B H0 (wipe σ vs) H (wipeG Γ vs)
  | [] => E
  | v :: vs => (Env.wiped E vs).forgetS v
/-- a growth by one address that no data names -/
theorem Env.add (E : Env K B H0 σ H Γ) {l : Addr} (h : H l = none) (e : Same H H') (hl : ∃ o, H' l = some o) : Env K (l :: B) H0 σ H' Γ ∧ Same (msk B H) (msk (l :: B) H') := by
  have em : Same (msk B H) (msk (l :: B) H') := fun a o q => by
    obtain ⟨n, q⟩ := msk_some q
    have : a ≠ l := ne_of_none q h
    rw [msk_out (by simp [this, n])]; exact e a o q
  refine ⟨⟨E.len, fun i s q => ?_, E.ex.trans e, fun b hb => ?_, E.new, E.inj⟩, em⟩
  · have z := E.at_ i s q
    cases s with
    | emp => trivial
    | dat d => obtain ⟨v, h1, h2⟩ := z; exact ⟨v, h1, h2.ex em⟩
    | mix C ss => obtain ⟨v, h1, h2⟩ := z; exact ⟨v, h1, h2.ex em⟩
    | own l' ds =>
      obtain ⟨h1, h2, vs, h3, h4⟩ := z
      exact ⟨h1, List.mem_cons_of_mem _ h2, vs, e _ _ h3, h4.ex em⟩
    | raw v => exact z
  · rcases List.mem_cons.mp hb with z | z
    · rw [z]; exact hl
    · exact E.bd.ex e b z
theorem filter_take_succ {α : Type} {xs : List α} {i : Nat} {x : α} (f : α → Bool) (h : xs[i]? = some x) : (xs.take (i + 1)).filter f = (xs.take i).filter f ++ (if f x = true then [x] else []) := by
  rw [List.take_add_one, h, List.filter_append]
  congr 1
  show List.filter f [x] = _
  by_cases e : f x = true
  · rw [if_pos e, List.filter_cons_of_pos e]; rfl
  · rw [if_neg e, List.filter_cons_of_neg e]; rfl
/-- what a comprehension walks: as DI, but that a list of one's own may be walked, too -/
def DW (K : PySem.W.Frag) (B : List Addr) (wi : TI) (Γ : List Sl) (ds : List D) : Prop := ∀ (H0 : Hp) (σ : L2.St) (H : Hp), Env K B H0 σ H Γ → ∀ R : It → Hp → Prop,
  (∀ J H1, Same H H1 → (∀ (B' : List Addr) (H2 : Hp), Same H1 H2 → Same (msk B H1) (msk B' H2) → Bnd B' H2 → (∀ (i : Nat) (d : D), ds[i]? = some d → J.go i H2 ∧ ∀ x H', J.yld i H2 x H' → Same H2 H' ∧ Dp K (msk B' H') x d) ∧ J.stop ds.length H2) → R J H1) → wi σ H R
theorem DI.dw {wi : TI} (h : DI K B wi Γ ds) : DW K B wi Γ ds := fun H0 σ H E R q => h H0 σ H E R fun J H1 e1 jk => q J H1 e1 fun B' H2 _ e hb => ⟨jk.go B' H2 e hb, jk.stop B' H2 e hb⟩
theorem dw_own {i : Nat} {l : Addr} (hi : Γ[i]? = some (.own l ds)) : DW K B (iList K (tVar i)) Γ ds := fun H0 σ H E R q => by
  obtain ⟨z1, z2, vs, z3, z4⟩ := E.at_ i _ hi
  refine ⟨_, z1, l, rfl, ⟨vs, SqL.of z3⟩, q _ H (Same.refl H) fun B' H2 e2 em hb => ⟨fun i d hd => ?_, ⟨vs, SqL.of (e2 _ _ z3), Nat.le_of_eq z4.len⟩⟩⟩
  obtain ⟨w, h1, h2⟩ := z4.get hd
  have hs : SqL K H2 l vs := SqL.of (e2 _ _ z3)
  refine ⟨⟨vs, w, hs, h1⟩, fun x H' y => ?_⟩
  obtain ⟨rfl, fx⟩ := y
  have := fx vs hs
  rw [h1] at this
  cases this
  exact ⟨Same.refl _, h2.ex em⟩
theorem dl_lcF {α : Type} {wi : TI} {g : TG} {vs : List Nat} {xs : List α} {enc : α → D} (Γd : α → List Sl) (f : α → Bool) (h : α → D) (hw : DW K B wi Γ (xs.map enc)) (hl : xs.length ≤ 10000)
    (ht : ∀ l x, x ∈ xs → DG K (l :: B) g (enc x) (wipeG Γ vs) (Γd x) vs ∧ DT K (l :: B) tt (Γd x) (f x) ∧ (f x = true → DE K (l :: B) te (Γd x) (h x))) :
    DL K B (tLc wi g tt te vs) Γ ((xs.filter f).map h) := fun H0 σ H E Q q => hw H0 σ H E _ fun J H1 e1 jk => by
  intro Dl hD
  let Pv : Nat → Hp → Prop := fun i H' => Same H1 H' ∧ ∃ ws, H' Dl = some (.lst ws) ∧ DpAll K (msk (Dl :: B) H') ws (((xs.take i).filter f).map h)
  have h0 : Pv 0 (upd H1 Dl (.lst [])) := ⟨same_new hD, [], upd_same, by rw [List.take_zero]; exact .nil⟩
  refine ⟨fun i m H' => m = xs.length - i ∧ i ≤ xs.length ∧ Pv i H', ⟨xs.length, by simp, Nat.zero_le _, h0⟩, ?_⟩
  rintro i m H2 ⟨rfl, hi, e2, ws, hws, hda⟩
  obtain ⟨E2, em⟩ := (E.grow e1).add hD e2 ⟨_, hws⟩
  obtain ⟨jgo, jstop⟩ := jk (Dl :: B) H2 e2 em E2.bd
  rw [List.length_map] at jstop
  by_cases hlt : i < xs.length
  · have hx : xs[i]? = some xs[i] := List.getElem?_eq_getElem hlt
    obtain ⟨hgo, hyl⟩ := jgo i (enc xs[i]) (by rw [List.getElem?_map, hx]; rfl)
    obtain ⟨g1, g2, g3⟩ := ht Dl xs[i] (List.getElem_mem hlt)
    refine .inr ⟨hgo, Pv (i + 1), fun H' p' => ⟨xs.length - (i + 1), by omega, rfl, hlt, p'⟩, fun x H3 y => ?_⟩
    obtain ⟨e3, hx3⟩ := hyl x H3 y
    refine g1 H0 _ H3 x ((E2.grow e3).wiped vs) hx3 _ fun σ' E4 hw4 => ⟨by rw [hw4, wipe_wipe vs vs fun _ z => z], g2 H0 σ' H3 E4 _ fun H4 e4 => ?_⟩
    have hs4 : H4 Dl = some (.lst ws) := e4 _ _ (e3 _ _ hws)
    have hd4 := hda.ex (msk_ex (e3.trans e4))
    cases hf : f xs[i] with
    | true =>
      refine g3 hf H0 σ' H4 (E4.grow e4) _ fun v H5 e5 hv => ⟨ws, e5 _ _ hs4, ?_, ?_⟩
      · rw [hda.len, List.length_map]
        have := List.length_filter_le f (xs.take i)
        rw [List.length_take] at this
        exact Nat.lt_of_le_of_lt (by omega : _ ≤ 10000) (by decide)
      · refine ⟨fun a o r => ?_, ws ++ [v], upd_same, ?_⟩
        · rw [upd_ne (ne_of_none r hD)]
          exact e5 _ _ (e4 _ _ (e3 _ _ (e2 _ _ r)))
        · rw [msk_upd List.mem_cons_self, filter_take_succ f hx, if_pos hf, List.map_append]
          exact (hd4.ex (msk_ex e5)).app (.cons hv .nil)
    | false =>
      refine ⟨(e2.trans e3).trans e4, ws, hs4, ?_⟩
      rw [filter_take_succ f hx, if_neg (by rw [hf]; exact Bool.false_ne_true), List.append_nil]
      exact hd4
  · have ei : i = xs.length := by omega
    subst ei
    rw [List.take_length] at hda
    exact .inl ⟨jstop, q Dl ws H2 (e1.free hD) (e1.trans e2) hws hda⟩
theorem dt_yes : DT K B tYes Γ true := fun _ _ H _ _ q => q H (Same.refl H)
/-- without tests -/
theorem dl_lc {α : Type} {wi : TI} {g : TG} {vs : List Nat} {xs : List α} {enc : α → D} (Γd : α → List Sl) (h : α → D) (hw : DW K B wi Γ (xs.map enc)) (hl : xs.length ≤ 10000)
    (ht : ∀ l x, x ∈ xs → DG K (l :: B) g (enc x) (wipeG Γ vs) (Γd x) vs ∧ DE K (l :: B) te (Γd x) (h x)) :
    DL K B (tLc wi g tYes te vs) Γ (xs.map h) := by
  have := dl_lcF (te := te) (tt := tYes) (g := g) (vs := vs) Γd (fun _ => true) h hw hl fun l x hx => ⟨(ht l x hx).1, dt_yes, fun _ => (ht l x hx).2⟩
  rw [List.filter_eq_self.mpr (fun _ _ => rfl)] at this
  exact this
/-! ### statements: D tells what is wanted behind them -/
variable {Dn : Ends} {t u : TS} {g : TG}
theorem s_asg (E : Env K B H0 σ H Γ) {i : Nat} (h : DE K B te Γ d) (k : ∀ σ' H', Env K B H0 σ' H' (Γ.set i (.dat d)) → Dn.nx σ' H') : tAsg te (gName i) Dn σ H :=
  h H0 σ H E _ fun v H1 e1 hv => k _ _ ((E.grow e1).setD i hv)
/-- a name for a new list of one's own -/
theorem s_asgO (E : Env K B H0 σ H Γ) {i : Nat} (h : DL K B te Γ ds) (k : ∀ l σ' H', Env K (l :: B) H0 σ' H' (Γ.set i (.own l ds)) → Dn.nx σ' H') : tAsg te (gName i) Dn σ H :=
  h H0 σ H E _ fun l vs H1 hl e1 hv ha => by
    obtain ⟨E1, em⟩ := E.add hl e1 ⟨_, hv⟩
    refine k l _ _ (E1.setO i List.mem_cons_self (E.ex.free hl) (fun j ds' q => ?_) hv ha)
    obtain ⟨_, z, _⟩ := E.at_ j _ q
    exact absurd z (E.nin hl)
theorem s_asgG (E : Env K B H0 σ H Γ) {vs : List Nat} (h : DE K B te Γ d) (hg : DG K B g d Γ Γ' vs) (k : ∀ σ' H', Env K B H0 σ' H' Γ' → Dn.nx σ' H') : tAsg te g Dn σ H :=
  h H0 σ H E _ fun v H1 e1 hv => hg H0 σ H1 v (E.grow e1) hv _ fun σ' E' _ => k _ _ E'
theorem s_par (E : Env K B H0 σ H Γ) {i j : Nat} {tr : TA} (h : DA K B tr Γ [d1, d2]) (k : ∀ σ' H', Env K B H0 σ' H' ((Γ.set i (.dat d1)).set j (.dat d2)) → Dn.nx σ' H') : tPar i j tr Dn σ H :=
  h H0 σ H E _ fun vs H1 e1 hv => by
    obtain ⟨x, y, rfl, hx, hy⟩ := dpa_2 hv
    exact ⟨x, y, rfl, k _ _ (((E.grow e1).setD i hx).setD j hy)⟩
/-- a, b = [..], e: the first one a new list of one's own -/
theorem s_parO (E : Env K B H0 σ H Γ) {i j : Nat} (h1 : DL K B ta Γ ds) (h2 : ∀ l, DE K (l :: B) tb Γ d) (k : ∀ l σ' H', Env K (l :: B) H0 σ' H' ((Γ.set i (.own l ds)).set j (.dat d)) → Dn.nx σ' H') : tPar i j (tCons ta (tCons tb tNil)) Dn σ H :=
  h1 H0 σ H E _ fun l vs H1 hl e1 hv ha => by
    obtain ⟨E1, em⟩ := E.add hl e1 ⟨_, hv⟩
    refine h2 l H0 σ H1 E1 _ fun y H2 e2 hy => ⟨_, _, rfl, ?_⟩
    refine k l _ _ ((((E1.grow e2).setO i List.mem_cons_self (E.ex.free hl) (fun j ds' q => ?_) (e2 _ _ hv) (ha.ex (msk_ex e2)))).setD j hy)
    obtain ⟨_, z, _⟩ := E.at_ j _ q
    exact absurd z (E.nin hl)
theorem s_if (E : Env K B H0 σ H Γ) {b : Bool} (h : DT K B tt Γ b) (h1 : b = true → ∀ H', Env K B H0 σ H' Γ → t Dn σ H') (h2 : b = false → ∀ H', Env K B H0 σ H' Γ → u Dn σ H') : tIfS tt t u Dn σ H :=
  h H0 σ H E _ fun H1 e1 => by
    cases b with
    | true => exact h1 rfl H1 (E.grow e1)
    | false => exact h2 rfl H1 (E.grow e1)
theorem s_ret (E : Env K B H0 σ H Γ) (h : DE K B te Γ d) (k : ∀ v H', Env K B H0 σ H' Γ → Dp K (msk B H') v d → Dn.rt v H') : tRet te Dn σ H :=
  h H0 σ H E _ fun v H1 e1 hv => k v H1 (E.grow e1) hv
theorem s_drop (E : Env K B H0 σ H Γ) (h : DE K B te Γ d) (k : ∀ H', Env K B H0 σ H' Γ → Dn.nx σ H') : tDrop te Dn σ H :=
  h H0 σ H E _ fun v H1 e1 hv => k H1 (E.grow e1)
theorem s_app (E : Env K B H0 σ H Γ) {i : Nat} {l : Addr} (hi : Γ[i]? = some (.own l ds)) (h : DE K B te Γ d) (hz : ds.length < 10000) (k : ∀ H', Env K B H0 σ H' (Γ.set i (.own l (ds ++ [d]))) → Dn.nx σ H') :
    tDrop (tBM K "list" rAppend (tVar i) (tCons te tNil)) Dn σ H := by
  obtain ⟨z1, z2, vs, z3, z4⟩ := E.at_ i _ hi
  refine ⟨_, z1, .inl ⟨rfl, _, SqL.of z3⟩, h H0 σ H E _ fun v H1 e1 hv => ?_⟩
  have z3' := e1 _ _ z3
  refine ⟨l, vs, v, rfl, rfl, z3', by rw [z4.len]; exact Nat.lt_of_lt_of_le hz (by decide), k _ ((E.grow e1).write hi ((z4.ex (msk_ex e1)).app (.cons hv .nil)))⟩
/-- an item of one's own list stored -/
theorem s_setI (E : Env K B H0 σ H Γ) {i : Nat} {l : Addr} {j : Nat} {z : Int} (hi : Γ[i]? = some (.own l ds)) (h : DE K B te Γ d) (hz : DE K B tb Γ (.int z)) (hj : ixN ds.length z = some j) (k : ∀ H', Env K B H0 σ H' (Γ.set i (.own l (ds.set j d))) → Dn.nx σ H') :
    tAsg te (gSub (tVar i) tb rSetL) Dn σ H :=
  h H0 σ H E _ fun v H1 e1 hv => by
    obtain ⟨z1, z2, vs, z3, z4⟩ := E.at_ i _ hi
    refine ⟨_, z1, hz H0 σ H1 (E.grow e1) _ fun y H2 e2 hy => ?_⟩
    have e12 := e1.trans e2
    exact ⟨l, vs, z, j, rfl, hy.int_inv, e12 _ _ z3, by rw [z4.len]; exact hj, k _ ((E.grow e12).write hi ((z4.ex (msk_ex e12)).set (hv.ex (msk_ex e2)) j))⟩
/-- the base heap but for one's own lists -/
def ownAt (Γ : List Sl) : List Addr := Γ.filterMap fun s => match s with | .own l _ => some l | _ => none
theorem mem_ownAt {i : Nat} {l : Addr} (h : Γ[i]? = some (.own l ds)) : l ∈ ownAt Γ := List.mem_filterMap.mpr ⟨_, List.mem_of_getElem? h, rfl⟩
theorem of_ownAt {l : Addr} (h : l ∈ ownAt Γ) : ∃ (i : Nat) (ds : List D), Γ[i]? = some (.own l ds) := by
  obtain ⟨s, h1, h2⟩ := List.mem_filterMap.mp h
  obtain ⟨i, hi, e⟩ := List.getElem_of_mem h1
  cases s with
  | own l' ds =>
    have : l' = l := Option.some.inj h2
    subst this
    exact ⟨i, ds, by rw [List.getElem?_eq_getElem hi, e]⟩
  | _ => cases h2
theorem Env.rebase (E : Env K B H0 σ H Γ) : Env K B (msk (ownAt Γ) H) σ H Γ :=
  ⟨E.len, E.at_, msk_le, E.bnd, fun i l ds h => msk_in (mem_ownAt h), E.inj⟩
theorem Env.unbase (E : Env K B H0 σ H Γ) {B' : List Addr} {σ' : L2.St} (F : Env K B' (msk (ownAt Γ) H) σ' H' Γ') (hn : ∀ (i : Nat) l ds, Γ'[i]? = some (.own l ds) → H0 l = none) : Env K B' H0 σ' H' Γ' :=
  ⟨F.len, F.at_, fun a o q => F.ex a o (by
    rw [msk_out]
    · exact E.ex a o q
    · intro z
      obtain ⟨i, ds, hi⟩ := of_ownAt z
      rw [E.new i a ds hi] at q; cases q), F.bnd, hn, F.inj⟩
theorem Env.rest (E : Env K B H0 σ H Γ) {σ' : L2.St} (F : Env K B (msk (ownAt Γ) H) σ' H' Γ') : Same (msk B H) (msk B H') := fun a o q => by
  obtain ⟨n, q⟩ := msk_some q
  rw [msk_out n]
  refine F.ex a o ?_
  rw [msk_out]
  · exact q
  · intro z
    obtain ⟨i, ds, hi⟩ := of_ownAt z
    obtain ⟨_, z2, _⟩ := E.at_ i _ hi
    exact n z2
/-- for: G tells the slots ahead of each turn -/
theorem s_for {wi : TI} {vs : List Nat} (E : Env K B H0 σ H Γ) (hw : DI K B wi Γ ds) (G : Nat → List Sl) (hG : G 0 = Γ) (hn : ∀ (i : Nat) (j : Nat) l es, (G i)[j]? = some (.own l es) → H0 l = none)
    (hb : ∀ (i : Nat) (d : D), ds[i]? = some d → ∃ Γd, DG K B g d (G i) Γd vs ∧ ∀ (H0' : Hp) (σ' : L2.St) (H' : Hp), Env K B H0' σ' H' Γd → ∀ (N : L2.St → Hp → Prop), (∀ σ'' H'', Env K B H0' σ'' H'' (G (i + 1)) → N σ'' H'') → ∀ X Y Z, t { nx := N, rt := X, ct := Y, bk := Z } σ' H')
    (k : ∀ σ' H', Env K B H0 σ' H' (G ds.length) → Dn.nx σ' H') : tFor wi g t Dn σ H :=
  hw H0 σ H E _ fun J H1 e1 jk => by
    subst hG
    have E1 := E.grow e1
    have F0 := E1.rebase
    refine ⟨fun i m σ' H' => m = ds.length - i ∧ i ≤ ds.length ∧ Env K B (msk (ownAt (G 0)) H1) σ' H' (G i), ⟨ds.length, by simp, Nat.zero_le _, F0⟩, ?_⟩
    rintro i m σ2 H2 ⟨rfl, hi, F⟩
    have em := E1.rest F
    by_cases hlt : i < ds.length
    · have hx : ds[i]? = some ds[i] := List.getElem?_eq_getElem hlt
      obtain ⟨hgo, hyl⟩ := jk.go B H2 em F.bd i _ hx
      obtain ⟨Γd, hg, hbody⟩ := hb i _ hx
      refine .inr ⟨hgo, fun σ3 H3 => Env K B (msk (ownAt (G 0)) H1) σ3 H3 (G (i + 1)), fun σ' H' p => ⟨ds.length - (i + 1), by omega, rfl, hlt, p⟩, fun x H3 y => ?_⟩
      obtain ⟨e3, hx3⟩ := hyl x H3 y
      exact hg _ σ2 H3 x (F.grow e3) hx3 _ fun σ4 E4 _ => hbody _ σ4 H3 E4 _ (fun _ _ z => z) _ _ _
    · have ei : i = ds.length := by omega
      subst ei
      exact .inl ⟨jk.stop B H2 em F.bd, k σ2 H2 (E1.unbase F (hn _))⟩
/-- while: I tells the slots for a state, m falls -/
theorem s_while {α : Type} (I : α → List Sl) (ok : α → Prop) (c : α → Bool) (m : α → Nat) (a : α) (ha : ok a) (E : Env K B H0 σ H (I a)) (ht : ∀ x, ok x → DT K B tt (I x) (c x))
    (hb : ∀ x, ok x → c x = true → ∃ y, ok y ∧ m y < m x ∧ ∀ (σ' : L2.St) (H' : Hp), Env K B H0 σ' H' (I x) → ∀ (N : L2.St → Hp → Prop), (∀ σ'' H'', Env K B H0 σ'' H'' (I y) → N σ'' H'') → ∀ X Y Z, t { nx := N, rt := X, ct := Y, bk := Z } σ' H')
    (k : ∀ x, ok x → c x = false → ∀ σ' H', Env K B H0 σ' H' (I x) → Dn.nx σ' H') : tWhile tt t Dn σ H := by
  refine ⟨fun n σ' H' => ∃ x, ok x ∧ n = m x ∧ Env K B H0 σ' H' (I x), ⟨m a, a, ha, rfl, E⟩, ?_⟩
  rintro n σ' H' ⟨x, hx, rfl, E⟩
  refine ht x hx H0 σ' H' E _ fun H1 e1 => ?_
  cases hc : c x with
  | true =>
    obtain ⟨y, hy, hm, body⟩ := hb x hx hc
    refine ⟨fun σ3 H3 => Env K B H0 σ3 H3 (I y), fun σ3 H3 F => ⟨m y, hm, y, hy, rfl, F⟩, body σ' H1 (E.grow e1) _ (fun _ _ z => z) _ _ _⟩
  | false => exact k x hx hc σ' H1 (E.grow e1)
/-! the same, something behind -/
variable {tz : TS}
theorem q_asg (E : Env K B H0 σ H Γ) {i : Nat} (h : DE K B te Γ d) (k : ∀ σ' H', Env K B H0 σ' H' (Γ.set i (.dat d)) → tz Dn σ' H') : tSeq (tAsg te (gName i)) tz Dn σ H := s_asg (Dn := { Dn with nx := tz Dn }) E h k
theorem q_asgO (E : Env K B H0 σ H Γ) {i : Nat} (h : DL K B te Γ ds) (k : ∀ l σ' H', Env K (l :: B) H0 σ' H' (Γ.set i (.own l ds)) → tz Dn σ' H') : tSeq (tAsg te (gName i)) tz Dn σ H := s_asgO (Dn := { Dn with nx := tz Dn }) E h k
theorem q_asgG (E : Env K B H0 σ H Γ) {vs : List Nat} (h : DE K B te Γ d) (hg : DG K B g d Γ Γ' vs) (k : ∀ σ' H', Env K B H0 σ' H' Γ' → tz Dn σ' H') : tSeq (tAsg te g) tz Dn σ H := s_asgG (Dn := { Dn with nx := tz Dn }) E h hg k
theorem q_par (E : Env K B H0 σ H Γ) {i j : Nat} {tr : TA} (h : DA K B tr Γ [d1, d2]) (k : ∀ σ' H', Env K B H0 σ' H' ((Γ.set i (.dat d1)).set j (.dat d2)) → tz Dn σ' H') : tSeq (tPar i j tr) tz Dn σ H := s_par (Dn := { Dn with nx := tz Dn }) E h k
theorem q_parO (E : Env K B H0 σ H Γ) {i j : Nat} (h1 : DL K B ta Γ ds) (h2 : ∀ l, DE K (l :: B) tb Γ d) (k : ∀ l σ' H', Env K (l :: B) H0 σ' H' ((Γ.set i (.own l ds)).set j (.dat d)) → tz Dn σ' H') : tSeq (tPar i j (tCons ta (tCons tb tNil))) tz Dn σ H := s_parO (Dn := { Dn with nx := tz Dn }) E h1 h2 k
theorem q_if (E : Env K B H0 σ H Γ) {b : Bool} (h : DT K B tt Γ b) (h1 : b = true → ∀ H', Env K B H0 σ H' Γ → t { Dn with nx := tz Dn } σ H') (h2 : b = false → ∀ H', Env K B H0 σ H' Γ → u { Dn with nx := tz Dn } σ H') : tSeq (tIfS tt t u) tz Dn σ H := s_if (Dn := { Dn with nx := tz Dn }) E h h1 h2
/-- a test that says no, nothing else -/
theorem q_ifN (E : Env K B H0 σ H Γ) (h : DT K B tt Γ false) (k : ∀ H', Env K B H0 σ H' Γ → tz Dn σ H') : tSeq (tIfS tt t tNext) tz Dn σ H := s_if (Dn := { Dn with nx := tz Dn }) E h (fun z => nomatch z) fun _ => k
/-- a test whose yes returns -/
theorem q_when (E : Env K B H0 σ H Γ) {b : Bool} (h : DT K B tt Γ b) (h1 : b = true → ∀ H', Env K B H0 σ H' Γ → t { Dn with nx := tz Dn } σ H') (h2 : b = false → ∀ H', Env K B H0 σ H' Γ → tz Dn σ H') : tSeq (tIfS tt t tNext) tz Dn σ H := s_if (Dn := { Dn with nx := tz Dn }) E h h1 h2
theorem s_ifN (E : Env K B H0 σ H Γ) (h : DT K B tt Γ false) (k : ∀ H', Env K B H0 σ H' Γ → Dn.nx σ H') : tIfS tt t tNext Dn σ H := s_if E h (fun z => nomatch z) fun _ => k
theorem q_drop (E : Env K B H0 σ H Γ) (h : DE K B te Γ d) (k : ∀ H', Env K B H0 σ H' Γ → tz Dn σ H') : tSeq (tDrop te) tz Dn σ H := s_drop (Dn := { Dn with nx := tz Dn }) E h k
theorem q_app (E : Env K B H0 σ H Γ) {i : Nat} {l : Addr} (hi : Γ[i]? = some (.own l ds)) (h : DE K B te Γ d) (hz : ds.length < 10000) (k : ∀ H', Env K B H0 σ H' (Γ.set i (.own l (ds ++ [d]))) → tz Dn σ H') :
    tSeq (tDrop (tBM K "list" rAppend (tVar i) (tCons te tNil))) tz Dn σ H := s_app (Dn := { Dn with nx := tz Dn }) E hi h hz k
theorem q_setI (E : Env K B H0 σ H Γ) {i : Nat} {l : Addr} {j : Nat} {z : Int} (hi : Γ[i]? = some (.own l ds)) (h : DE K B te Γ d) (hz : DE K B tb Γ (.int z)) (hj : ixN ds.length z = some j) (k : ∀ H', Env K B H0 σ H' (Γ.set i (.own l (ds.set j d))) → tz Dn σ H') :
    tSeq (tAsg te (gSub (tVar i) tb rSetL)) tz Dn σ H := s_setI (Dn := { Dn with nx := tz Dn }) E hi h hz hj k
theorem q_for {wi : TI} {vs : List Nat} (E : Env K B H0 σ H Γ) (hw : DI K B wi Γ ds) (G : Nat → List Sl) (hG : G 0 = Γ) (hn : ∀ (i : Nat) (j : Nat) l es, (G i)[j]? = some (.own l es) → H0 l = none)
    (hb : ∀ (i : Nat) (d : D), ds[i]? = some d → ∃ Γd, DG K B g d (G i) Γd vs ∧ ∀ (H0' : Hp) (σ' : L2.St) (H' : Hp), Env K B H0' σ' H' Γd → ∀ (N : L2.St → Hp → Prop), (∀ σ'' H'', Env K B H0' σ'' H'' (G (i + 1)) → N σ'' H'') → ∀ X Y Z, t { nx := N, rt := X, ct := Y, bk := Z } σ' H')
    (k : ∀ σ' H', Env K B H0 σ' H' (G ds.length) → tz Dn σ' H') : tSeq (tFor wi g t) tz Dn σ H := s_for (Dn := { Dn with nx := tz Dn }) E hw G hG hn hb k
theorem q_while {α : Type} (I : α → List Sl) (ok : α → Prop) (c : α → Bool) (m : α → Nat) (a : α) (ha : ok a) (E : Env K B H0 σ H (I a)) (ht : ∀ x, ok x → DT K B tt (I x) (c x))
    (hb : ∀ x, ok x → c x = true → ∃ y, ok y ∧ m y < m x ∧ ∀ (σ' : L2.St) (H' : Hp), Env K B H0 σ' H' (I x) → ∀ (N : L2.St → Hp → Prop), (∀ σ'' H'', Env K B H0 σ'' H'' (I y) → N σ'' H'') → ∀ X Y Z, t { nx := N, rt := X, ct := Y, bk := Z } σ' H')
    (k : ∀ x, ok x → c x = false → ∀ σ' H', Env K B H0 σ' H' (I x) → tz Dn σ' H') : tSeq (tWhile tt t) tz Dn σ H := s_while (Dn := { Dn with nx := tz Dn }) I ok c m a ha E ht hb k
/-! ### a def's start -/
theorem env_start {N : List Str} {vs : List V} {ds : List D} {n : Nat} (hb : Bnd B H) (h : DpAll K (msk B H) vs ds) (hn : N.length - vs.length = n) : Env K B H (start N vs) H (ds.map Sl.dat ++ List.replicate n .emp) := by
  have hl := h.len
  refine ⟨?_, fun i s q => ?_, Same.refl H, hb, fun i l es q => ?_, fun i j l es fs q _ => ?_⟩
  · unfold L2.start
    rw [List.length_append, List.length_append, List.length_map, List.length_map, List.length_replicate, List.length_replicate, hn, hl]
  · unfold L2.start
    by_cases hi : i < ds.length
    · rw [List.getElem?_append_left (by rw [List.length_map]; exact hi), List.getElem?_map, List.getElem?_eq_getElem hi] at q
      have q := Option.some.inj q
      subst q
      obtain ⟨v, h1, h2⟩ := h.get (List.getElem?_eq_getElem hi)
      refine ⟨v, ?_, h2⟩
      rw [List.getElem?_append_left (by rw [List.length_map, hl]; exact hi), List.getElem?_map, h1]; rfl
    · rw [List.getElem?_append_right (by rw [List.length_map]; omega), List.getElem?_replicate] at q
      split at q
      · have q := Option.some.inj q
        subst q; trivial
      · cases q
  all_goals
    exfalso
    have := List.mem_of_getElem? q
    rcases List.mem_append.mp this with z | z
    · obtain ⟨x, _, e⟩ := List.mem_map.mp z; cases e
    · have := (List.mem_replicate.mp z).2; cases this
/-- a promise is kept: what the body hands back -/
theorem done {Q : VK} {r : D} {B' : List Addr} (q : ∀ v H', Same H0 H' → Dp K (msk B H') v r → Q v H') (hs : ∀ b ∈ B, b ∈ B') {v : V} {H' : Hp} (E : Env K B' H0 σ H' Γ) (h : Dp K (msk B' H') v r) : Q v H' :=
  q v H' E.ex (h.ex (msk_sub hs))
end
end WS
/-! zip(xs, ys, strict=True) of two lists of one length. -/
namespace PySem
namespace ZStr
open Sem (wp)
/-- all but the addresses of C is kept -/
def Off (C : List Addr) (h h' : Heap) : Prop := ∀ c o, c ∉ C → h.get? c = some o → h'.get? c = some o
theorem Off.then {C : List Addr} {h h1 h2 : Heap} (a : Off C h h1) (b : Off C h1 h2) : Off C h h2 := fun c o n e => b c o n (a c o n e)
theorem off_but {C : List Addr} {x : Addr} {h h' : Heap} (hx : x ∈ C) (s : Heap.SameBut x h h') : Off C h h' := fun c o n e => s.extBut c o (fun z => n (z ▸ hx)) e
theorem off_ext {C : List Addr} {x : Addr} {h h' : Heap} (hx : x ∈ C) (s : Heap.ExtBut x h h') : Off C h h' := fun c o n e => s c o (fun z => n (z ▸ hx)) e
theorem Off.iter {C : List Addr} {h h' : Heap} {i l : Addr} {k : Nat} (a : Off C h h') (hi : i ∉ C) (x : h.IsListIter i l k) : h'.IsListIter i l k := x.at fun o e => a i o hi e
theorem Off.list {C : List Addr} {h h' : Heap} {l : Addr} {xs : Array Value} (a : Off C h h') (hl : l ∉ C) (x : h.IsList l xs) : h'.IsList l xs := x.at fun o e => a l o hl e
abbrev zRec (f0 : Value) (TI TO : Addr) : Obj := { cls := .type "zip", dict := none, data := .fields #[f0, .bool false, .bool true, .ref TI, .ref TO], slots := #[] }
/-- a strict zip that stands between two turns -/
structure ZS (h : Heap) (z TI TO i1 i2 l1 l2 : Addr) (k : Nat) (f0 : Value) : Prop where
  obj : h.get? z = some (zRec f0 TI TO)
  src : IsPair h TI (.ref i1) (.ref i2)
  out : ∃ a b, IsPair h TO a b
  it1 : h.IsListIter i1 l1 k
  it2 : h.IsListIter i2 l2 k
/-- all of it stands apart -/
structure Apart (z TI TO i1 i2 l1 l2 : Addr) : Prop where
  nd : [z, TI, TO, i1, i2].Nodup
  o1 : l1 ∉ [z, TO, i1, i2]
  o2 : l2 ∉ [z, TO, i1, i2]
section
variable {prog : Program} {w : World} {A : Around} {E : Value → Shared → Prop} {s : Shared}
theorem draw_some {it l : Addr} {k : Nat} {xs : Array Value} {x : Value} {Q : Option Value → Shared → Prop} (hi : s.heap.IsListIter it l k) (hl : s.heap.IsList l xs) (hx : xs[k]? = some x)
    (q : ∀ h', h'.IsListIter it l (k + 1) → Heap.SameBut it s.heap h' → Q (some x) { s with heap := h' }) : wpAny (model prog w) A (Builtin.SmallTypes.nextOrEnd (.ref it)) Q E s := by
  unfold Builtin.SmallTypes.nextOrEnd
  exact wpAny_bind (wpAny_attempt (wpAny_nextOf_list_item hi hl hx fun h' u v => wpAny_pure (q h' u v)))
theorem draw_none {it l : Addr} {k : Nat} {xs : Array Value} {Q : Option Value → Shared → Prop} (hh : A.handled = none) (hi : s.heap.IsListIter it l k) (hl : s.heap.IsList l xs) (hx : xs[k]? = none)
    (q : ∀ h', Heap.ExtBut it s.heap h' → Q none { s with heap := h' }) : wpAny (model prog w) A (Builtin.SmallTypes.nextOrEnd (.ref it)) Q E s := by
  unfold Builtin.SmallTypes.nextOrEnd
  refine wpAny_bind (wpAny_attempt (wpAny_nextOf_list_end hh hi hl hx fun h' e u v => ?_))
  obtain ⟨o, v1, v2⟩ := v
  exact wpAny_bind (wpAny_isInstance (T := "StopIteration") (b := true) ⟨o, v1, v2⟩ isSubtype_stop (wpAny_pure (q h' u)))
/-- a turn with an item on both sides -/
theorem turn {z TI TO i1 i2 l1 l2 : Addr} {k : Nat} {xs ys : Array Value} {x y : Value} {Q : Value → Shared → Prop} (P : Apart z TI TO i1 i2 l1 l2) (Z : ZS s.heap z TI TO i1 i2 l1 l2 k .none)
    (u1 : s.heap.IsList l1 xs) (u2 : s.heap.IsList l2 ys) (hx : xs[k]? = some x) (hy : ys[k]? = some y)
    (q : ∀ h', ZS h' z TI TO i1 i2 l1 l2 (k + 1) (rawInt s.heap.objs.size) → IsPair h' s.heap.objs.size x y → Off [z, TO, i1, i2] s.heap h' → Q (.ref s.heap.objs.size) { s with heap := h' }) :
    wpAny (model prog w) A (Builtin.«zip.__next__» ⟨[.ref z], []⟩) (fun fin s' => ∃ v, fin = .done (.ret v) ∧ Q v s') E s := by
  obtain ⟨Zo, Zs, ⟨a, b, Zt⟩, Z1, Z2⟩ := Z
  have nd := P.nd
  simp only [List.nodup_cons, List.mem_cons, List.not_mem_nil, not_or, or_false, List.nodup_nil, and_true, not_false_eq_true] at nd
  obtain ⟨⟨n1, n2, n3, n4⟩, ⟨n5, n6, n7⟩, ⟨n8, n9⟩, n10⟩ := nd
  show wpAny _ _ (field (.ref z) 2 >>= _) _ _ _
  refine wpAny_bind (wpAny_field Zo rfl (x := .bool true) rfl ?_)
  show wpAny _ _ (field (.ref z) 3 >>= _) _ _ _
  refine wpAny_bind (wpAny_field Zo rfl (x := .ref TI) rfl (wpAny_bind (wpAny_seqItems Zs rfl ?_)))
  show wpAny _ _ (Builtin.SmallTypes.ownedTupleIsFree (.ref z) >>= _) _ _ _
  unfold Builtin.SmallTypes.ownedTupleIsFree
  refine wpAny_bind (wpAny_bind (wpAny_field Zo rfl (x := .none) rfl (wpAny_pure ?_)))
  simp only [if_true]
  refine wpAny_bind (wpAny_rule (wpAny_bind (wpAny_field Zo rfl (x := .ref TO) rfl (wpAny_bind (wpAny_setField_rec Zo (by simp) fun g1 o1 c1 => ?_)))))
  have o1' : g1.get? z = some (zRec .ellipsis TI TO) := o1
  have f1 : Off [z] s.heap g1 := off_but (by simp) c1
  refine wpAny_bind ?_
  simp only [List.zipIdx_cons, List.zipIdx_nil, List.forIn_cons, List.forIn_nil]
  -- the first list's item
  refine wpAny_bind (wpAny_bind (wpAny_onRaise ?_))
  show wpAny _ _ (Builtin.SmallTypes.nextOrEnd (.ref i1)) _ _ _
  have v1 := P.o1
  have v2 := P.o2
  simp only [List.mem_cons, List.not_mem_nil, not_or, or_false] at v1 v2
  refine draw_some (f1.iter (by simp; exact Ne.symm n3) Z1) (f1.list (by simp; exact v1.1) u1) hx fun g2 w1 c2 => ?_
  have f2 : Off [z, i1] s.heap g2 := Off.then (fun c o n e => f1 c o (by simp at n ⊢; exact n.1) e) (off_but (by simp) c2)
  have p2 : IsPair g2 TO a b := f2 _ _ (by simp; exact ⟨Ne.symm n2, n8⟩) Zt
  refine wpAny_bind (wpAny_seqItems p2 rfl (wpAny_bind (wpAny_updateSeq_pair p2 fun g3 p3 c3 => wpAny_bind (wpAny_letGo (wpAny_pure ?_)))))
  have p3' : IsPair g3 TO x b := p3
  have f3 : Off [z, i1, TO] s.heap g3 := Off.then (fun c o n e => f2 c o (by simp at n ⊢; exact ⟨n.1, n.2.1⟩) e) (off_but (by simp) c3)
  -- the second list's item
  refine wpAny_bind (wpAny_bind (wpAny_onRaise ?_))
  show wpAny _ _ (Builtin.SmallTypes.nextOrEnd (.ref i2)) _ _ _
  refine draw_some (f3.iter (by simp; exact ⟨Ne.symm n4, Ne.symm n10, Ne.symm n9⟩) Z2) (f3.list (by simp; exact ⟨v2.1, v2.2.2.1, v2.2.1⟩) u2) hy fun g4 w2 c4 => ?_
  have p4 : IsPair g4 TO x b := off_but (C := [i2]) (by simp) c4 _ _ (by simp; exact n9) p3'
  refine wpAny_bind (wpAny_seqItems p4 rfl (wpAny_bind (wpAny_updateSeq_pair p4 fun g5 p5 c5 => wpAny_bind (wpAny_letGo (wpAny_pure (wpAny_pure ?_))))))
  have p5' : IsPair g5 TO x y := p5
  have f45 : Off [i2, TO] g3 g5 := Off.then (off_but (by simp) c4) (off_but (by simp) c5)
  have f5 : Off [z, TO, i1, i2] s.heap g5 := Off.then (fun c o n e => f3 c o (by simp at n ⊢; exact ⟨n.1, n.2.2.1, n.2.1⟩) e) (fun c o n e => f45 c o (by simp at n ⊢; exact ⟨n.2.2.2, n.2.1⟩) e)
  have z5 : g5.get? z = some (zRec .ellipsis TI TO) := f45 _ _ (by simp; exact ⟨n4, n2⟩) (off_but (C := [i1, TO]) (by simp) c3 _ _ (by simp; exact ⟨n3, n2⟩) (off_but (C := [i1, TO]) (by simp) c2 _ _ (by simp; exact ⟨n3, n2⟩) o1'))
  have i5 : g5.IsListIter i1 l1 (k + 1) := Off.iter (C := [i2, TO]) f45 (by simp; exact ⟨n10, Ne.symm n8⟩) (Off.iter (C := [TO]) (off_but (by simp) c3) (by simp; exact Ne.symm n8) w1)
  have j5 : g5.IsListIter i2 l2 (k + 1) := Off.iter (C := [TO]) (off_but (by simp) c5) (by simp; exact Ne.symm n9) w2
  have sz : g5.objs.size = s.heap.objs.size := by rw [c5.1, c4.1, c3.1, c2.1, c1.1]
  -- the tuple is handed out
  refine wpAny_bind (wpAny_seqItems p5' rfl (wpAny_bind (wpAny_newTuple ?_)))
  show wpAny _ _ (Builtin.SmallTypes.ownedTupleHandOut (.ref z) (.ref g5.objs.size) >>= _) _ _ _
  unfold Builtin.SmallTypes.ownedTupleHandOut
  have z6 : (g5.push { cls := .type "tuple", data := .seq #[x, y] }).get? z = some (zRec .ellipsis TI TO) := Heap.get?_push_of_some _ z5
  refine wpAny_bind (wpAny_bind (wpAny_setField_rec z6 (by simp) fun g7 z7 c7 => ?_))
  have z7' : g7.get? z = some (zRec (rawInt g5.objs.size) TI TO) := z7
  refine wpAny_setField_rec z7' (by simp) fun g8 z8 c8 => wpAny_pure ⟨_, rfl, ?_⟩
  have z8' : g8.get? z = some (zRec (rawInt g5.objs.size) TI TO) := z8
  have f8 : Off [z] g5 g8 := fun c o n e => off_but (C := [z]) (by simp) c8 c o n (off_but (C := [z]) (by simp) c7 c o n (Heap.get?_push_of_some _ e))
  have zl : z < g5.objs.size := Heap.lt_size z5
  have zn : g5.objs.size ∉ [z] := fun m => by
    have e := List.mem_singleton.mp m
    rw [e] at zl
    exact Nat.lt_irrefl _ zl
  have t8 : IsPair g8 g5.objs.size x y := off_but (C := [z]) (by simp) c8 _ _ zn (off_but (C := [z]) (by simp) c7 _ _ zn (Heap.get?_push_size _ rfl))
  show Q (.ref g5.objs.size) _
  rw [sz] at z8' t8 ⊢
  refine q g8 ⟨z8', f8 _ _ (by simp; exact Ne.symm n1) (f5 _ _ (by simp; exact ⟨Ne.symm n1, n5, n6, n7⟩) Zs), ⟨x, y, f8 _ _ (by simp; exact Ne.symm n2) p5'⟩, f8.iter (by simp; exact Ne.symm n3) i5, f8.iter (by simp; exact Ne.symm n4) j5⟩ t8
    (f5.then fun c o n e => f8 c o (by simp at n ⊢; exact n.1) e)
/-- both have ended -/
theorem last {z TI TO i1 i2 l1 l2 : Addr} {k : Nat} {xs ys : Array Value} {Q : Fin → Shared → Prop} (hh : A.handled = none) (P : Apart z TI TO i1 i2 l1 l2) (Z : ZS s.heap z TI TO i1 i2 l1 l2 k .none)
    (u1 : s.heap.IsList l1 xs) (u2 : s.heap.IsList l2 ys) (hx : xs[k]? = none) (hy : ys[k]? = none)
    (q : ∀ h' e, Off [z, TO, i1, i2] s.heap h' → (∃ o, h'.get? e = some o ∧ o.cls = .type "StopIteration") → E (.ref e) { s with heap := h' }) :
    wpAny (model prog w) A (Builtin.«zip.__next__» ⟨[.ref z], []⟩) Q E s := by
  obtain ⟨Zo, Zs, ⟨a, b, Zt⟩, Z1, Z2⟩ := Z
  have nd := P.nd
  simp only [List.nodup_cons, List.mem_cons, List.not_mem_nil, not_or, or_false, List.nodup_nil, and_true, not_false_eq_true] at nd
  obtain ⟨⟨n1, n2, n3, n4⟩, ⟨n5, n6, n7⟩, ⟨n8, n9⟩, n10⟩ := nd
  have v1 := P.o1
  have v2 := P.o2
  simp only [List.mem_cons, List.not_mem_nil, not_or, or_false] at v1 v2
  show wpAny _ _ (field (.ref z) 2 >>= _) _ _ _
  refine wpAny_bind (wpAny_field Zo rfl (x := .bool true) rfl ?_)
  show wpAny _ _ (field (.ref z) 3 >>= _) _ _ _
  refine wpAny_bind (wpAny_field Zo rfl (x := .ref TI) rfl (wpAny_bind (wpAny_seqItems Zs rfl ?_)))
  show wpAny _ _ (Builtin.SmallTypes.ownedTupleIsFree (.ref z) >>= _) _ _ _
  unfold Builtin.SmallTypes.ownedTupleIsFree
  refine wpAny_bind (wpAny_bind (wpAny_field Zo rfl (x := .none) rfl (wpAny_pure ?_)))
  simp only [if_true]
  refine wpAny_bind (wpAny_rule (wpAny_bind (wpAny_field Zo rfl (x := .ref TO) rfl (wpAny_bind (wpAny_setField_rec Zo (by simp) fun g1 o1 c1 => ?_)))))
  have o1' : g1.get? z = some (zRec .ellipsis TI TO) := o1
  have f1 : Off [z] s.heap g1 := off_but (by simp) c1
  refine wpAny_bind ?_
  simp only [List.zipIdx_cons, List.zipIdx_nil, List.forIn_cons, List.forIn_nil]
  refine wpAny_bind (wpAny_bind (wpAny_onRaise ?_))
  show wpAny _ _ (Builtin.SmallTypes.nextOrEnd (.ref i1)) _ _ _
  refine draw_none hh (f1.iter (by simp; exact Ne.symm n3) Z1) (f1.list (by simp; exact v1.1) u1) hx fun g2 c2 => ?_
  have o2 : g2.get? z = some (zRec .ellipsis TI TO) := c2 _ _ n3 o1'
  refine wpAny_bind (wpAny_setField_rec o2 (by simp) fun g3 z3 c3 => wpAny_bind ?_)
  show wpAny _ _ (forIn [((Value.ref i2), 1)] _ _ >>= _) _ _ _
  refine wpAny_bind ?_
  simp only [List.forIn_cons, List.forIn_nil]
  have w2 : Off [z, i1] s.heap g3 := Off.then (fun c o n e => off_ext (C := [i1]) (by simp) c2 c o (by simp at n ⊢; exact n.2) (f1 c o (by simp at n ⊢; exact n.1) e)) (off_but (by simp) c3)
  refine wpAny_bind (wpAny_bind ?_)
  refine draw_none hh (w2.iter (by simp; exact ⟨Ne.symm n4, Ne.symm n10⟩) Z2) (w2.list (by simp; exact ⟨v2.1, v2.2.2.1⟩) u2) hy fun g4 c4 => ?_
  refine wpAny_pure ?_
  show wpAny _ _ (pure PUnit.unit) _ _ _
  refine wpAny_pure (wpAny_bind (wpAny_rule ?_))
  show wpAny _ _ (newExc (.type "StopIteration") [] >>= _) _ _ _
  refine wpAny_bind ?_
  unfold newExc newTuple
  refine wpAny_bind (wpAny_newObj_type ?_ (by size_fits))
  refine wpAny_bind (m := firstArgMember _ _) (wpAny_of_eq (a := Value.none) (by simp only [firstArgMember]; rfl) ?_)
  refine wpAny_newObj_type ?_ (by size_fits)
  refine wpAny_raiseNew_none hh ?_
  have w4 : Off [z, TO, i1, i2] s.heap g4 := Off.then (fun c o n e => w2 c o (by simp at n ⊢; exact ⟨n.1, n.2.2.1⟩) e) (off_ext (by simp) c4)
  exact q _ _ (w4.then fun c o _ e => Heap.get?_push_of_some _ (Heap.get?_push_of_some _ e)) ⟨_, Heap.get?_push_size _ rfl, rfl⟩
/-! the walk of it -/
theorem next_some {z TI TO i1 i2 l1 l2 : Addr} {k : Nat} {xs ys : Array Value} {x y : Value} {Q : Option Value → Shared → Prop} (P : Apart z TI TO i1 i2 l1 l2) (Z : ZS s.heap z TI TO i1 i2 l1 l2 k .none)
    (u1 : s.heap.IsList l1 xs) (u2 : s.heap.IsList l2 ys) (hx : xs[k]? = some x) (hy : ys[k]? = some y)
    (q : ∀ h', ZS h' z TI TO i1 i2 l1 l2 (k + 1) (rawInt s.heap.objs.size) → IsPair h' s.heap.objs.size x y → Off [z, TO, i1, i2] s.heap h' → Q (some (.ref s.heap.objs.size)) { s with heap := h' }) :
    wpAny (model prog w) A (pyNext (.ref z)) Q E s := by
  have hT : s.TypeIs (.ref z) "zip" := ⟨_, Z.obj, rfl⟩
  unfold pyNext
  refine wpAny_bind (wpAny_attempt (wpAny_callSpecial?_slot (name := Str.ofString "__next__") hT F.slot_zip_next (wpAny_call_entry F.slot_zip_next hT F.entry_zip_next ?_ (F.args_zip_next_1 _))))
  exact turn P Z u1 u2 hx hy fun h' a b c => wpAny_pure (q h' a b c)
theorem next_none {z TI TO i1 i2 l1 l2 : Addr} {k : Nat} {xs ys : Array Value} {Q : Option Value → Shared → Prop} (hh : A.handled = none) (P : Apart z TI TO i1 i2 l1 l2) (Z : ZS s.heap z TI TO i1 i2 l1 l2 k .none)
    (u1 : s.heap.IsList l1 xs) (u2 : s.heap.IsList l2 ys) (hx : xs[k]? = none) (hy : ys[k]? = none) (q : ∀ h', Off [z, TO, i1, i2] s.heap h' → Q none { s with heap := h' }) :
    wpAny (model prog w) A (pyNext (.ref z)) Q E s := by
  have hT : s.TypeIs (.ref z) "zip" := ⟨_, Z.obj, rfl⟩
  unfold pyNext
  refine wpAny_bind (wpAny_attempt (wpAny_callSpecial?_slot (name := Str.ofString "__next__") hT F.slot_zip_next (wpAny_call_entry F.slot_zip_next hT F.entry_zip_next ?_ (F.args_zip_next_1 _))))
  refine last hh P Z u1 u2 hx hy fun h' e a b => ?_
  obtain ⟨o, b1, b2⟩ := b
  exact wpAny_bind (wpAny_isInstance (T := "StopIteration") (b := true) ⟨o, b1, b2⟩ isSubtype_stop (wpAny_pure (q h' a)))
theorem let_go {elts : List Expr} {kk : Nat} {pos : Pos} {z TI TO T : Addr} {Q : Unit → Shared → Prop} (hz : s.heap.get? z = some (zRec (rawInt T) TI TO))
    (q : ∀ h', h'.get? z = some (zRec .none TI TO) → Heap.SameBut z s.heap h' → Q () { s with heap := h' }) : wpAny (model prog w) A (letOwnedTupleGo (.Tuple elts kk pos) (.ref z) (.ref T)) Q E s := by
  unfold letOwnedTupleGo
  refine wpAny_bind (wpAny_load hz ?_)
  show wpAny _ _ (if (["enumerate", "zip", "dict_itemiterator", "dict_reverseitemiterator", "odict_iterator", "itertools.zip_longest", "itertools.pairwise"].contains "zip" && (#[rawInt T, Value.bool false, Value.bool true, Value.ref TI, Value.ref TO] : Array Value)[0]? == some (rawInt T)) = true then _ else _) Q E s
  rw [if_pos (by simp)]
  refine wpAny_bind (wpAny_rule ?_)
  show wpAny _ _ (setField (.ref z) 0 .none) Q E s
  exact wpAny_setField_rec hz (by simp) fun h' a b => q h' a b
theorem iter_self {z TI TO : Addr} {f0 : Value} {Q : Value → Shared → Prop} (hz : s.heap.get? z = some (zRec f0 TI TO)) (h : Q (.ref z) s) : wpAny (model prog w) A (pyIter (.ref z)) Q E s := by
  have hT : s.TypeIs (.ref z) "zip" := ⟨_, hz, rfl⟩
  refine wpAny_pyIter_slot hT F.slot_zip_iter (wpAny_call_entry F.slot_zip_iter hT F.entry_zip_iter ?_ (F.args_zip_iter_1 _))
  exact wpAny_pure ⟨_, rfl, "zip", _, hT, F.slot_zip_next.lookup, h⟩
end
/-! ### the making -/
namespace F
theorem typeCall_strict (a b c : Value) : checkTypeCall "zip" ⟨[a, b], [(Str.ofString "strict", c)]⟩ = pure () := by kernel_rfl
theorem newCall_strict (a b c : Value) : checkBuiltinCall "zip.__new__" ⟨[.type "zip", a, b], [(Str.ofString "strict", c)]⟩ = pure () := by kernel_rfl
theorem init_strict (o a b c : Value) : argsOk "object.__init__" ⟨[o, a, b], [(Str.ofString "strict", c)]⟩ := by unfold argsOk; kernel_rfl
end F
abbrev g1 (h : Heap) (l1 : Addr) : Heap := h.push { cls := .type "list_iterator", data := .fields #[.ref l1, .int 0 0] }
abbrev g2 (h : Heap) (l1 l2 : Addr) : Heap := (g1 h l1).push { cls := .type "list_iterator", data := .fields #[.ref l2, .int 0 0] }
abbrev g3 (h : Heap) (l1 l2 : Addr) : Heap := (g2 h l1 l2).push { cls := .type "tuple", data := .seq #[.ref h.objs.size, .ref (g1 h l1).objs.size] }
abbrev g4 (h : Heap) (l1 l2 : Addr) : Heap := (g3 h l1 l2).push { cls := .type "tuple", data := .seq #[.none, .none] }
abbrev g5 (h : Heap) (l1 l2 : Addr) : Heap := (g4 h l1 l2).push (zRec .none (g2 h l1 l2).objs.size (g3 h l1 l2).objs.size)
theorem made (l1 l2 : Addr) (xs ys : Array Value) :
    Meets (Builtin.«zip.__new__» ⟨[.type "zip", .ref l1, .ref l2], [(Str.ofString "strict", .bool true)]⟩) (fun _ R s => s.heap.IsList l1 xs ∧ s.heap.IsList l2 ys ∧ R (.ok (.ret (.ref (g4 s.heap l1 l2).objs.size))) { s with heap := g5 s.heap l1 l2 }) :=
  .of_wp fun prog w A R s h => by
    obtain ⟨hp, g, d, tk, os⟩ := s
    obtain ⟨u1, u2, h⟩ := h
    have hsub := sub_zip
    have a1 : Heap.IsList (Shared.heap ⟨hp, g, d, tk, os⟩) l1 xs := u1
    have a2 : Heap.IsList (Shared.heap ⟨hp.push { cls := .type "list_iterator", data := .fields #[.ref l1, .int 0 0] }, g, d, tk, os⟩) l2 ys := Heap.IsList.push u2 _
    have e1 : (Str.ofString "strict" != ("strict" : Str)) = false := by decide +kernel
    wp_walk using wpAny_pyIter_list a1, wpAny_pyIter_list a2
    exact ⟨_, rfl, h⟩
end ZStr
end PySem
/-! zip(xs, ys, strict=True): what is walked. -/
namespace WS
open PySem PySem.Spec PyProof.Rows L2
theorem apart_new (n a b : Nat) (ha : a < n) (hb : b < n) : ZStr.Apart (n + 4) (n + 2) (n + 3) n (n + 1) a b := by
  have q : ∀ i j : Nat, i ≠ j → n + i ≠ n + j := fun i j h e => h (Nat.add_left_cancel e)
  refine ⟨?_, ?_, ?_⟩
  · simp only [List.nodup_cons, List.mem_cons, List.not_mem_nil, not_or, or_false, List.nodup_nil, and_true, not_false_eq_true]
    exact ⟨⟨q 4 2 (by decide), q 4 3 (by decide), q 4 0 (by decide), q 4 1 (by decide)⟩, ⟨q 2 3 (by decide), q 2 0 (by decide), q 2 1 (by decide)⟩, ⟨q 3 0 (by decide), q 3 1 (by decide)⟩, q 0 1 (by decide)⟩
  · simp only [List.mem_cons, List.not_mem_nil, not_or, or_false]
    exact ⟨Nat.ne_of_lt (Nat.lt_of_lt_of_le ha (Nat.le_add_right _ _)), Nat.ne_of_lt (Nat.lt_of_lt_of_le ha (Nat.le_add_right _ _)), Nat.ne_of_lt ha, Nat.ne_of_lt (Nat.lt_of_lt_of_le ha (Nat.le_add_right _ _))⟩
  · simp only [List.mem_cons, List.not_mem_nil, not_or, or_false]
    exact ⟨Nat.ne_of_lt (Nat.lt_of_lt_of_le hb (Nat.le_add_right _ _)), Nat.ne_of_lt (Nat.lt_of_lt_of_le hb (Nat.le_add_right _ _)), Nat.ne_of_lt hb, Nat.ne_of_lt (Nat.lt_of_lt_of_le hb (Nat.le_add_right _ _))⟩
/-- two lists of one length, their items in new pairs -/
def Itzs (K : PySem.W.Frag) (a b : Addr) : It :=
  ⟨fun i H => ∃ xs ys x y, SqL K H a xs ∧ SqL K H b ys ∧ xs[i]? = some x ∧ ys[i]? = some y,
   fun i H v H' => ∃ T x y, v = .ref T ∧ H T = none ∧ H' = upd H T (.tup [x, y]) ∧ (∀ xs, SqL K H a xs → xs[i]? = some x) ∧ (∀ ys, SqL K H b ys → ys[i]? = some y),
   fun i H => ∃ xs ys, SqL K H a xs ∧ SqL K H b ys ∧ xs.length ≤ i ∧ ys.length ≤ i⟩
theorem in5 {c z TI TO i1 i2 : Addr} (h : c ∈ [z, TI, TO, i1, i2]) : c = z ∨ c = TI ∨ c = TO ∨ c = i1 ∨ c = i2 := by simpa using h
theorem turn_strict {P : Program} {w : World} {K : PySem.W.Frag} {es : List Expr} {kk : Nat} {tp : Pos} {a b z TI TO i1 i2 : Addr} (A : ZStr.Apart z TI TO i1 i2 a b) :
    Turn P w K (.Tuple es kk tp) (Itzs K a b) [z, TI, TO, i1, i2] z (fun i h => ZStr.ZS h z TI TO i1 i2 a b i .none) where
  mem := by simp
  obj := fun i h st c hc => by
    obtain ⟨s1, s2, ⟨x, y, s3⟩, ⟨o1, e1, _, d1⟩, ⟨o2, e2, _, d2⟩⟩ := st
    rcases in5 hc with q | q | q | q | q <;> subst q
    · exact ⟨_, s1, fun v q => nomatch q⟩
    · exact ⟨_, s2, fun v q => nomatch q⟩
    · exact ⟨_, s3, fun v q => nomatch q⟩
    · exact ⟨o1, e1, fun v q => by rw [d1] at q; cases q⟩
    · exact ⟨o2, e2, fun v q => by rw [d2] at q; cases q⟩
  keep := fun i h h' st k => by
    obtain ⟨s1, s2, ⟨x, y, s3⟩, s4, s5⟩ := st
    exact ⟨k z (by simp) _ s1, k TI (by simp) _ s2, ⟨x, y, k TO (by simp) _ s3⟩, s4.at fun o q => k i1 (by simp) o q, s5.at fun o q => k i2 (by simp) o q⟩
  item := by
    intro X hP hw hK hc i pins s σ H E I hf st hg
    subst hP hw hK
    obtain ⟨xs, ys, x, y, qx, qy, hx, hy⟩ := hg
    obtain ⟨us, rx, px, _⟩ := I.list qx
    obtain ⟨vs, ry, py, _⟩ := I.list qy
    obtain ⟨u, hu, ru⟩ := rx.get hx
    obtain ⟨v, hv, rv⟩ := ry.get hy
    have zl : z < s.heap.objs.size := Heap.lt_size st.obj
    refine ZStr.next_some A st px.isList py.isList (x := u) (y := v) (by simpa using hu) (by simpa using hv) fun h1 Z1 T1 f1 => ?_
    refine ⟨_, rfl, ZStr.let_go (s := { s with heap := h1 }) Z1.obj fun h2 z2 sb => ?_⟩
    have g : ∀ c o, c ≠ z → h1.get? c = some o → h2.get? c = some o := fun c o n e => sb.extBut c o n e
    have T2 : IsPair h2 s.heap.objs.size u v := g _ _ (Nat.ne_of_gt zl) T1
    have all : ∀ c o, c ∉ [z, TI, TO, i1, i2] → s.heap.get? c = some o → h2.get? c = some o := fun c o n e => by
      simp only [List.mem_cons, List.not_mem_nil, not_or, or_false] at n
      exact g _ _ n.1 (f1 _ _ (by simp only [List.mem_cons, List.not_mem_nil, not_or, or_false]; exact ⟨n.1, n.2.2.1, n.2.2.2.1, n.2.2.2.2⟩) e)
    have new : ObjOk X.prog X.w (upd H s.heap.objs.size (.tup [x, y])) h2 s.heap.objs.size (.tup [x, y]) := ⟨by show 2 ≤ sizeLine; decide, [u, v], .cons ru (.cons rv .nil), ⟨_, T2, rfl, _, rfl⟩⟩
    have J : Inv X pins σ (upd H s.heap.objs.size (.tup [x, y])) { s with heap := h2 } := I.turnedNew (t' := s.toks) (ch := [z, TI, TO, i1, i2]) all hf (Nat.le_refl _) new
    have nd := A.nd
    simp only [List.nodup_cons, List.mem_cons, List.not_mem_nil, not_or, or_false, List.nodup_nil, and_true, not_false_eq_true] at nd
    obtain ⟨p, q, t3⟩ := Z1.out
    refine ⟨.ref s.heap.objs.size, _, J, rfl, ⟨_, x, y, rfl, I.hok.fresh (Nat.le_refl _), rfl, fun l hl => by rw [I.list_inj hl qx]; exact hx, fun l hl => by rw [I.list_inj hl qy]; exact hy⟩,
      ⟨z2, g _ _ (Ne.symm nd.1.1) Z1.src, ⟨p, q, g _ _ (Ne.symm nd.1.2.1) t3⟩, Z1.it1.at fun o e => g _ o (Ne.symm nd.1.2.2.1) e, Z1.it2.at fun o e => g _ o (Ne.symm nd.1.2.2.2) e⟩, fun c hcm => ?_⟩
    have lt : c < s.heap.objs.size := by
      obtain ⟨s1, s2, ⟨_, _, s3⟩, ⟨_, e1, _⟩, ⟨_, e2, _⟩⟩ := st
      rcases in5 hcm with q | q | q | q | q <;> subst q
      · exact zl
      · exact Heap.lt_size s2
      · exact Heap.lt_size s3
      · exact Heap.lt_size e1
      · exact Heap.lt_size e2
    rw [upd_ne (Nat.ne_of_lt lt)]
    exact (hf c hcm).1
  done := by
    intro X hP hw hK hc i pins s σ H E I hf st hg
    subst hP hw hK
    obtain ⟨xs, ys, qx, qy, lx, ly⟩ := hg
    obtain ⟨us, rx, px, _⟩ := I.list qx
    obtain ⟨vs, ry, py, _⟩ := I.list qy
    have l1 := rx.length
    have l2 := ry.length
    refine ZStr.next_none (I.ok.hd hc) A st px.isList py.isList (by simp; omega) (by simp; omega) fun h' f => ⟨rfl, I.turnedL (t' := s.toks) (ch := [z, TI, TO, i1, i2]) (fun c o n q => ?_) hf⟩
    simp only [List.mem_cons, List.not_mem_nil, not_or, or_false] at n
    exact f c o (by simp only [List.mem_cons, List.not_mem_nil, not_or, or_false]; exact ⟨n.1, n.2.2.1, n.2.2.2.1, n.2.2.2.2⟩) q
  self := fun A i s Q E st h => ZStr.iter_self st.obj h
def iZipS (K : PySem.W.Frag) (ta : TA) : TI := fun σ H R => ta σ H fun vs H1 => ∃ a b xs ys, vs = [.ref a, .ref b] ∧ SqL K H1 a xs ∧ SqL K H1 b ys ∧ R (Itzs K a b) H1
theorem with_kw {M : Model} {A : Around} {E : Value → Shared → Prop} {s : Shared} {env : PySem.Env} {pos : Pos} {T : String} {e : Expr} {rest : List Expr} {kws : List Keyword} {Q : Value → Shared → Prop}
    (h : wpAny M A (spliced (backTo pos (starEach (e :: rest) env))) (fun vs s1 => wpAny M A (evalAll ((backToKw pos (keywordEach kws env)).map (·.2))) (fun ws s2 => wpAny M A (call (.type T) vs (((backToKw pos (keywordEach kws env)).filterMap (·.1)).zip ws)) Q E s2) E s1) E s)
    (he : backTo pos (starEach (e :: rest) env) = (false, eval e env) :: backTo pos (starEach rest env)) (hp : (backTo pos (starEach (e :: rest) env)).any (·.1) = false)
    (h1 : (backToKw pos (keywordEach kws env)).all (·.1.isSome) = true) (h2 : (backToKw pos (keywordEach kws env)).any (·.1.isNone) = false) :
    wpAny M A (callWith pos (.type T) [] (backTo pos (starEach (e :: rest) env)) (backToKw pos (keywordEach kws env))) Q E s := by
  rw [he] at h hp ⊢
  have k := evalArgs_kwB (f := .type T) (Q := fun a s1 => wpAny M A (call (.type T) ([] ++ a.pos) a.kw) Q E s1) h1 h
  unfold callWith
  refine wpAny_bind (wpAny_holding (wpAny_mono k (fun a s1 q => wpAny_bind (wpAny_standAt ?_)) fun _ _ x => x))
  simp only [hp, h2, Bool.or_false]
  exact wpAny_bind (wpAny_pure (wpAny_bind (wpAny_mono q (fun r s2 hr => wpAny_bind (wpAny_holding (wpAny_point (wpAny_pure hr)))) fun _ _ x => x)))
theorem pi_strict {X : Cx} {e e2 : Expr} {ta : TA} {p pos tp kp cp : Pos} {es : List Expr} {kk j : Nat} (hg : Gl X "zip") (hm : X.mg "zip" = none) (ha : PA X [e, e2] ta)
    (he : backTo pos (starEach [e, e2] X.env) = (false, eval e X.env) :: backTo pos (starEach [e2] X.env) := by rfl) (hp : (backTo pos (starEach [e, e2] X.env)).any (·.1) = false := by rfl)
    (h1 : (backToKw pos (keywordEach [⟨some "strict", .Constant (.bool true) j cp, kp⟩] X.env)).all (·.1.isSome) = true := by rfl) (h2 : (backToKw pos (keywordEach [⟨some "strict", .Constant (.bool true) j cp, kp⟩] X.env)).any (·.1.isNone) = false := by rfl)
    (h3 : (backToKw pos (keywordEach [⟨some "strict", .Constant (.bool true) j cp, kp⟩] X.env)).filterMap (·.1) = [Str.ofString "strict"] := by rfl) :
    PI X (.Tuple es kk tp) (.Call (.Name "zip" p) [e, e2] [⟨some "strict", .Constant (.bool true) j cp, kp⟩] pos) (iZipS X.K ta) := by
  refine ⟨fun pins s σ H R I h => ?_⟩
  refine wpAny_Call_Name_kw (ld_blt I hg hm PyProof.Rows.boot_zip ?_)
  refine with_kw (thn (ha.run pos pins s σ H _ I h) fun us s1 ⟨vs, H1, I1, r1, q1⟩ => ?_) he hp h1 h2
  have kk := (pk_cons (X := X) (nm := some "strict") (kpos := kp) (pe_bl (b := true) (j := j) (pos := cp)) pk_nil).run pos pins s1 σ H1 (fun zs H2 => zs = [V.bl true] ∧ H2 = H1) I1 ⟨rfl, rfl⟩
  refine thn kk fun ws s2 ⟨zs, H2, I2, r2, e2, e3⟩ => ?_
  subst e2 e3
  rw [h3]
  obtain ⟨a, b, xs, ys, ev, qx, qy, q⟩ := q1
  subst ev
  have ew : ws = [Value.bool true] := by
    cases r2 with
    | cons a1 a2 => cases a2; rw [show _ = Value.bool true from a1]
  subst ew
  obtain ⟨u1, u2, rfl, w1, w2⟩ := vals2 r1
  cases w1
  cases w2
  obtain ⟨us, rx, px, _⟩ := I2.list qx
  obtain ⟨vs, ry, py, _⟩ := I2.list qy
  have la : a < s2.heap.objs.size := px.lt
  have lb : b < s2.heap.objs.size := py.lt
  show wpAny _ _ (call (.type "zip") [.ref a, .ref b] [(Str.ofString "strict", .bool true)]) _ _ _
  refine callType_newKw F.called_zip (by decide) (ZStr.F.typeCall_strict _ _ _) (ZStr.F.newCall_strict _ _ _) (fun o => ZStr.F.init_strict o _ _ _) F.entry_zip_new (ZStr.made a b _ _) ⟨px.isList, py.isList, ?_⟩
  have z1 : (ZStr.g1 s2.heap a).objs.size = s2.heap.objs.size + 1 := Heap.size_push ..
  have z2 : (ZStr.g2 s2.heap a b).objs.size = s2.heap.objs.size + 2 := by rw [Heap.size_push, z1]
  have z3 : (ZStr.g3 s2.heap a b).objs.size = s2.heap.objs.size + 3 := by rw [Heap.size_push, z2]
  have z4 : (ZStr.g4 s2.heap a b).objs.size = s2.heap.objs.size + 4 := by rw [Heap.size_push, z3]
  have up : ∀ c o, s2.heap.get? c = some o → (ZStr.g5 s2.heap a b).get? c = some o := fun c o e => Heap.get?_push_of_some _ (Heap.get?_push_of_some _ (Heap.get?_push_of_some _ (Heap.get?_push_of_some _ (Heap.get?_push_of_some _ e))))
  have d5 : (ZStr.g5 s2.heap a b).get? (ZStr.g4 s2.heap a b).objs.size = some _ := Heap.get?_push_size _ rfl
  have d4 : (ZStr.g5 s2.heap a b).get? (ZStr.g3 s2.heap a b).objs.size = some _ := Heap.get?_push_of_some _ (Heap.get?_push_size _ rfl)
  have d3 : (ZStr.g5 s2.heap a b).get? (ZStr.g2 s2.heap a b).objs.size = some _ := Heap.get?_push_of_some _ (Heap.get?_push_of_some _ (Heap.get?_push_size _ rfl))
  have d2 : (ZStr.g5 s2.heap a b).get? (ZStr.g1 s2.heap a).objs.size = some _ := Heap.get?_push_of_some _ (Heap.get?_push_of_some _ (Heap.get?_push_of_some _ (Heap.get?_push_size _ rfl)))
  have d1 : (ZStr.g5 s2.heap a b).get? s2.heap.objs.size = some _ := Heap.get?_push_of_some _ (Heap.get?_push_of_some _ (Heap.get?_push_of_some _ (Heap.get?_push_of_some _ (Heap.get?_push_size _ rfl))))
  show _ ∧ _
  rw [z1] at d2
  rw [z1, z2] at d3
  rw [z3] at d4
  rw [z2, z3, z4] at d5
  rw [z4]
  have I3 : L2.Inv X pins σ H2 { s2 with heap := ZStr.g5 s2.heap a b } := I2.kept (t' := s2.toks) up
  refine ⟨⟨_, d5, rfl⟩, ZStr.iter_self d5 ⟨s2.heap.objs.size + 4, [s2.heap.objs.size + 4, s2.heap.objs.size + 2, s2.heap.objs.size + 3, s2.heap.objs.size, s2.heap.objs.size + 1], _, _, H2, rfl, I3, turn_strict (apart_new s2.heap.objs.size a b la lb), ⟨d5, d3, ⟨_, _, d4⟩, ⟨_, d1, rfl, rfl⟩, ⟨_, d2, rfl, rfl⟩⟩, fun c hc => ?_, q⟩⟩
  have le : s2.heap.objs.size ≤ c := by
    rcases in5 hc with q | q | q | q | q
    · rw [q]; exact Nat.le_add_right _ _
    · rw [q]; exact Nat.le_add_right _ _
    · rw [q]; exact Nat.le_add_right _ _
    · rw [q]; exact Nat.le_refl _
    · rw [q]; exact Nat.le_add_right _ _
  exact I2.fpOk le (I2.hok.fresh le)
/-- pairs of data -/
def zpD (ds es : List D) : List D := (ds.zip es).map fun p => .tuple [p.1, p.2]
theorem di_zipS {K : PySem.W.Frag} {B : List Addr} {Γ : List Sl} {ta tb : TE} {ds es : List D} (h : DE K B ta Γ (.list ds)) (h' : DE K B tb Γ (.list es)) (hl : ds.length = es.length) : DI K B (iZipS K (tCons ta (tCons tb tNil))) Γ (zpD ds es) := fun H0 σ H E R q =>
  h H0 σ H E _ fun v H1 e1 hv => h' H0 σ H1 (E.grow e1) _ fun u H2 e2 hu => by
    obtain ⟨a, vs, g1, g2, g3⟩ := (hv.ex (msk_ex e2)).list_inv
    obtain ⟨b, us, f1, f2, f3⟩ := hu.list_inv
    have lz : (zpD ds es).length = ds.length := by unfold zpD; rw [List.length_map, List.length_zip, hl, Nat.min_self]
    refine ⟨a, b, vs, us, by rw [g1, f1], msk_le.seq g2, msk_le.seq f2, q _ H2 (e1.trans e2) ⟨fun B' H3 e hb i d hd => ?_, fun B' H3 e hb => ⟨vs, us, msk_le.seq (e.seq g2), msk_le.seq (e.seq f2), by rw [lz, g3.len]; exact Nat.le_refl _, by rw [lz, f3.len, hl]; exact Nat.le_refl _⟩⟩⟩
    have hi : i < ds.length := lz ▸ get_len hd
    have hj : i < es.length := hl ▸ hi
    obtain ⟨x, x1, x2⟩ := g3.get (List.getElem?_eq_getElem hi)
    obtain ⟨y, y1, y2⟩ := f3.get (List.getElem?_eq_getElem hj)
    have ed : d = .tuple [ds[i], es[i]] := by
      unfold zpD at hd
      rw [List.getElem?_map, List.getElem?_eq_getElem (by rw [List.length_zip]; omega), List.getElem_zip] at hd
      exact (Option.some.inj hd).symm
    subst ed
    have sa : SqL K H3 a vs := msk_le.seq (e.seq g2)
    have sb : SqL K H3 b us := msk_le.seq (e.seq f2)
    refine ⟨⟨vs, us, x, y, sa, sb, x1, y1⟩, fun z H' yl => ?_⟩
    obtain ⟨T, x', y', rfl, nT, rfl, fx, fy⟩ := yl
    have ex := fx vs sa
    rw [x1] at ex
    cases ex
    have ey := fy us sb
    rw [y1] at ey
    cases ey
    have hn := hb.nin nT
    exact ⟨same_new nT, .tup (.inl (.inl (by rw [msk_out hn]; exact upd_same))) (.cons ((x2.ex e).ex (msk_ex (same_new nT))) (.cons ((y2.ex e).ex (msk_ex (same_new nT))) .nil))⟩
end WS
/-! More operators by data. -/
namespace WS
open PySem PySem.Spec PyProof.Rows L2
section
variable {X : Cx}
/-- powers of any size -/
def CPowW (i j : Int) : Prop := 0 ≤ j ∧ (Builtin.Int.intBits i : Int) * j ≤ 2 ^ 27
theorem op_powW : OpR X (binaryOp .Pow) (rI CPowW fun i j => .int (i ^ j.toNat)) := opI fun _ _ _ _ _ _ _ hc q => pow_int hc.1 hc.2 q
theorem op_catS : OpR X (binaryOp .Add) (rCatS X.K) := by
  intro pins s σ H x y v u Q I rx ry h
  obtain ⟨l, b, xs, zs, rfl, rfl, hx, hy, hz, q⟩ := h
  cases rx
  cases ry
  obtain ⟨us, r1, ⟨⟨c1, d1, a1, t1⟩, n1, o1, e1, e2, e3⟩, z1⟩ := I.list hx
  obtain ⟨ws, r2, ⟨⟨c2, d2, a2, t2⟩, n2, o2, f1, f2, f3⟩, z2⟩ := I.list hy
  simp only at e1 e2 e3 f1 f2 f3
  subst e1 e2 e3 f1 f2 f3
  have k1 := r1.length
  have k2 := r2.length
  refine concat_meets ⟨_, o1, rfl⟩ ⟨_, o2, rfl⟩ noFill_list_add seq_list_add PySem.F.slot_list_add PySem.F.entry_list_add (PySem.F.args_list_add_2 _ _) (list_addW l b us.toArray ws.toArray n1 n2 _ _ t1 t2 (by simp; omega)) ⟨o1, o2, ?_⟩
  rw [show us.toArray ++ ws.toArray = (us ++ ws).toArray by simp]
  exact ⟨.ref _, _, I.lnew (t' := s.toks) (r1.append r2) (by rw [List.length_append]; omega), rfl, q _ I.fresh⟩
/-- x > y of data -/
def rGtD (K : PySem.W.Frag) : R2 := fun x y H Q => ∃ d e, Dp K H x d ∧ Dp K H y e ∧ PySem.W.alike d e = true ∧ d ≠ .none ∧ d.depth ≤ 60 ∧ Q (.bl (PySem.W.dataLt e d)) H
theorem op_gtD (hu : X.A.units + 64 < cLine) : OpR X (compareOp .Gt) (rGtD X.K) := by
  intro pins s σ H x y v u Q I rx ry h
  obtain ⟨d, e, hd, he, ha, hn, hz, q⟩ := h
  obtain ⟨as, r1⟩ := Dp.reads I d x v hd rx
  obtain ⟨bs, r2⟩ := Dp.reads I e y u he ry
  exact PySem.W.gt_data r1 r2 ha hn (by omega) ⟨.bl _, H, I, rfl, q⟩
/-- sorted of data that can be compared -/
def rSortD (K : PySem.W.Frag) : List V → Hp → VK → Prop := fun xs H Q => ∃ (Hm : Hp) (a : Addr) (vs : List V) (ds : List D), Same Hm H ∧ xs = [.ref a] ∧ SqL K H a vs ∧ DpAll K Hm vs ds ∧ PySem.W.AllAlike ds ∧ PySem.W.Sortable ds ∧ ds.length ≤ 1000 ∧ (∀ d ∈ ds, d.depth ≤ 50) ∧
  ∀ l ws, H l = none → DpAll K Hm ws (ds.mergeSort (PySem.W.dataLe false fun d => d)) → Q (.ref l) (upd H l (.lst ws))
theorem each_dp {K : PySem.W.Frag} {H : Hp} : ∀ {vs : List V} {us : List Value} {ds : List D}, Vals vs us → DpAll K H vs ds → PySem.W.EachIs (fun u d => ∃ v, RelV v u ∧ Dp K H v d) us ds
  | _, _, _, .nil, .nil => .nil
  | _, _, _, .cons r t, .cons q s => .cons ⟨_, r, q⟩ (each_dp t s)
theorem of_each {K : PySem.W.Frag} {H : Hp} : ∀ {us : List Value} {ds : List D}, PySem.W.EachIs (fun u d => ∃ v, RelV v u ∧ Dp K H v d) us ds → ∃ vs, Vals vs us ∧ DpAll K H vs ds
  | _, _, .nil => ⟨[], .nil, .nil⟩
  | _, _, .cons r t => by
    obtain ⟨v, r1, r2⟩ := r
    obtain ⟨vs, t1, t2⟩ := of_each t
    exact ⟨v :: vs, .cons r1 t1, .cons r2 t2⟩
theorem cr_sortD (hu : X.A.units + 64 < cLine) : CallR X (.builtin "sorted") (rSortD X.K) := by
  intro pins s σ H xs us Q I r h
  obtain ⟨Hm, a, vs, ds, em, rfl, hs, hd, al, so, hl, dp, q⟩ := h
  obtain ⟨its, rv, p, _⟩ := I.list hs
  rw [Vals.ref1 r]
  have hlen := hd.len
  have e1 := each_dp rv hd
  have er : PySem.W.EachIs (fun v d => ∃ as, Reads s.heap v d as) its ds := e1.mono fun u d ⟨v, r1, r2⟩ => Dp.reads I d v u (r2.ex em) r1
  refine PySem.W.sorted_data (bs := ds) (enc := fun d => d) p.isList e1 er (by rw [List.map_id']; exact al) (by rw [List.map_id']; exact so) (big1000 hl) (fun d hd => by have := dp d hd; omega) fun out ho eo => ?_
  obtain ⟨ws, w1, w2⟩ := of_each eo
  obtain ⟨c, hc⟩ := sortedAll_at s.heap its out.toArray
  have up : ∀ b o, s.heap.get? b = some o → (sortedAll s.heap its out.toArray).get? b = some o := fun _ _ => sortedAll_old
  have hn : H (s.heap.objs.size + 1) = none := I.hok.fresh (Nat.le_succ _)
  refine ⟨.ref _, _, I.laid (t' := s.toks) (o := .lst ws) up (Nat.le_succ _) ?_, rfl, q _ ws hn w2⟩
  exact ⟨by rw [w1.length, ho]; exact big1000 hl, out, c, w1, hc⟩
theorem ca_sortD {K : PySem.W.Frag} {B : List Addr} {ds : List D} (al : PySem.W.AllAlike ds) (so : PySem.W.Sortable ds) (hl : ds.length ≤ 1000) (dp : ∀ d ∈ ds, d.depth ≤ 50) : CaD K B (rSortD K) [.list ds] (.list (ds.mergeSort (PySem.W.dataLe false fun d => d))) := fun H vs Q hb hv q => by
  obtain ⟨v, e, hv⟩ := dpa_1 hv
  obtain ⟨a, us, g1, g2, g3⟩ := hv.list_inv
  refine ⟨msk B H, a, us, ds, msk_le, by rw [e, g1], msk_le.seq g2, g3, al, so, hl, dp, fun l ws hn hw => q _ _ (same_new hn) ?_⟩
  have hb' := hb.nin hn
  exact .lst (.inl (.inl (by rw [msk_out hb']; exact upd_same))) (hw.ex (msk_ex (same_new hn)))
theorem od_gt {K : PySem.W.Frag} {B : List Addr} {d e : D} (h1 : PySem.W.alike d e = true) (h2 : d ≠ .none) (h3 : d.depth ≤ 60) : OpD K B (rGtD K) d e (.bool (PySem.W.dataLt e d)) := fun H x y Q _ hx hy q => ⟨d, e, hx.ex msk_le, hy.ex msk_le, h1, h2, h3, q _ H (Same.refl H) (.bl _)⟩
end
end WS
/-! The text, and how its defs are called. -/
namespace WS
open PySem PySem.Spec PyProof.Rows L2
def topS (i : Nat) : Stmt := PySem.Challenge.pw_wholesound_k38_whole_fewest_lifts.main.body.getD i (.Pass ⟨0, 0, 0, 0⟩)
/-! the rules, the fragment named -/
abbrev rLenOf (K : PySem.W.Frag) : List V → Hp → VK → Prop := fun xs H Q => ∃ p ys, xs = [.ref p] ∧ (SqL K H p ys ∨ SqT K H p ys) ∧ Q (.int ys.length) H
section
variable {X : Cx} (K : PySem.W.Frag) (hK : X.K = K)
include hK
theorem k_len : CallR X (.builtin "len") (rLenOf K) := hK ▸ call_len_seq
theorem k_list : CallR X (.type "list") (rListOf K) := hK ▸ call_list_of
theorem k_tuple : CallR X (.type "tuple") (rTupleOf K) := hK ▸ call_tuple_of
theorem k_isi : CallR X (.builtin "isinstance") (rIsi K) := hK ▸ call_isi
theorem k_sum (hc : X.calm = true) : CallR X (.builtin "sum") (rSum K) := hK ▸ cr_sum hc
theorem k_min (hc : X.calm = true) : CallR X (.builtin "min") (rMin K) := hK ▸ cr_min hc
theorem k_max (hc : X.calm = true) : CallR X (.builtin "max") (rMax K) := hK ▸ cr_max hc
theorem k_sort (hu : X.A.units + 64 < cLine) : CallR X (.builtin "sorted") (rSortD K) := hK ▸ cr_sortD hu
theorem k_eq (hu : X.A.units + 64 < cLine) : OpR X (compareOp .Eq) (rEqD K) := hK ▸ op_eqD hu
theorem k_ne (hu : X.A.units + 64 < cLine) : OpR X (compareOp .NotEq) (rNeD K) := hK ▸ op_neD hu
theorem k_gt (hu : X.A.units + 64 < cLine) : OpR X (compareOp .Gt) (rGtD K) := hK ▸ op_gtD hu
theorem k_cat : OpR X (binaryOp .Add) (rCatS K) := hK ▸ op_catS
theorem k_ix : IxR X (rIx K) := hK ▸ ix_seq
theorem k_slL : SlR X (rSlL K) := hK ▸ sl_list
theorem k_slT : SlR X (rSlT K) := hK ▸ sl_tup
theorem k_notIn : OpR X (compareOp .NotIn) (rIn K true) := hK ▸ op_notIn_seq
theorem k_rev {e : Expr} {te : TE} {k : Nat} {p1 p2 p3 pos : Pos} (he : PE X e te) : PE X (.Subscript e (.Slice none none (some (.UnaryOp .USub (.Constant (.int 1) k p1) p2)) p3) pos) (tRevL K te) := hK ▸ pe_revL he
theorem k_pl {l tg : Expr} {tl : TE} (hl : PE X l tl) : PI X tg l (iList K tl) := hK ▸ pi_list hl
theorem k_pt {l tg : Expr} {tl : TE} (hl : PE X l tl) : PI X tg l (iTup K tl) := hK ▸ pi_tup hl
theorem k_en {e : Expr} {ta : TA} {p pos tpos : Pos} {elts : List Expr} {kk : Nat} (hg : Gl X "enumerate") (hm : X.mg "enumerate" = none) (ha : PA X [e] ta) (hs : starEach [e] X.env = [(false, eval e X.env)] := by rfl) :
    PI X (.Tuple elts kk tpos) (.Call (.Name "enumerate" p) [e] [] pos) (iEnum K ta) := hK ▸ pi_enum hg hm ha hs
theorem k_zip {e e2 : Expr} {ta : TA} {p pos tp kp cp : Pos} {es : List Expr} {kk j : Nat} (hg : Gl X "zip") (hm : X.mg "zip" = none) (ha : PA X [e, e2] ta)
    (he : backTo pos (starEach [e, e2] X.env) = (false, eval e X.env) :: backTo pos (starEach [e2] X.env) := by rfl) (hp : (backTo pos (starEach [e, e2] X.env)).any (·.1) = false := by rfl)
    (h1 : (backToKw pos (keywordEach [⟨some "strict", .Constant (.bool true) j cp, kp⟩] X.env)).all (·.1.isSome) = true := by rfl) (h2 : (backToKw pos (keywordEach [⟨some "strict", .Constant (.bool true) j cp, kp⟩] X.env)).any (·.1.isNone) = false := by rfl)
    (h3 : (backToKw pos (keywordEach [⟨some "strict", .Constant (.bool true) j cp, kp⟩] X.env)).filterMap (·.1) = [Str.ofString "strict"] := by rfl) :
    PI X (.Tuple es kk tp) (.Call (.Name "zip" p) [e, e2] [⟨some "strict", .Constant (.bool true) j cp, kp⟩] pos) (iZipS K ta) := hK ▸ pi_strict hg hm ha he hp h1 h2 h3
theorem k_gtup {es : List Expr} {k : Nat} {t : TGs} {n : Nat} {pos : Pos} (hc : X.calm = true) (h : PGs X es t) (hn : (assignEach es X.env).length = n := by rfl) (hst : (assignEach es X.env).findIdx? (·.1) = none := by rfl) : PG X (.Tuple es k pos) (gTup K n t) := hK ▸ pg_tup hc h hn hst
theorem k_gunl {es : List Expr} {k : Nat} {t : TGs} {n : Nat} {pos : Pos} (hc : X.calm = true) (h : PGs X es t) (hn : (assignEach es X.env).length = n := by rfl) (hst : (assignEach es X.env).findIdx? (·.1) = none := by rfl) : PG X (.Tuple es k pos) (gUnl K n t) := hK ▸ pg_unl hc h hn hst
end
/-- the built-ins are still what they were -/
structure Bt (mg : Str → Option Value) : Prop where
  b_len : mg "len" = none
  b_int : mg "int" = none
  b_abs : mg "abs" = none
  b_list : mg "list" = none
  b_tuple : mg "tuple" = none
  b_bool : mg "bool" = none
  b_isinstance : mg "isinstance" = none
  b_sum : mg "sum" = none
  b_min : mg "min" = none
  b_max : mg "max" = none
  b_sorted : mg "sorted" = none
  b_zip : mg "zip" = none
  b_enumerate : mg "enumerate" = none
  b_range : mg "range" = none
/-- a def that stands at its name and keeps its promise -/
structure Fn (P : Program) (w : World) (K : PySem.W.Frag) (mg : Str → Option Value) (base : Heap) (x : Str) (k : Nat) (ps : List Str) (sp : Sp) : Prop where
  ex : ∃ (f : Addr) (fd : FuncData), FnOk P w K mg base CX0 k f fd ps sp ∧ mg x = some (.ref f) ∧ PySem.W.keepIn K (.ref f) = true ∧ Binds K fd ps []
section
variable {X : Cx} {x : Str} {p pos : Pos} {e : Expr} {es : List Expr} {t : TA} {k : Nat} {ps : List Str} {sp : Sp}
theorem pe_fn (F : Fn X.prog X.w X.K X.mg X.base x k ps sp) (hr : Room k X.A) (hg : Gl X x) (ha : PA X (e :: es) t) (hdb : (x == ("__debug__" : Str)) = false := by decide) (he : starEach (e :: es) X.env = (false, eval e X.env) :: starEach es X.env := by rfl)
    (hpl : (backTo pos (starEach es X.env)).any (·.1) = false := by rfl) : PE X (.Call (.Name x p) (e :: es) [] pos) (tCall sp [] E0 t) := by
  obtain ⟨f, fd, G, hm, hk, hb⟩ := F.ex
  exact pe_call G hr hg hm hk hb .nil pass0 ha hdb he hpl
end
section
variable {P : Program} {w : World} {K : PySem.W.Frag} {mg : Str → Option Value} {base : Heap}
theorem fn_ok {x qual : Str} {st : Stmt} {f : Addr} {fd : FuncData} {N ps : List Str} {k n : Nat} {pre : List D → D → Prop} (F : Fun K x qual st f fd) (S : FnScope N ps (defScope st)) (hn : N.length - ps.length = n) (hl : ∀ ds r, pre ds r → ds.length = ps.length)
    (body : ∀ (cdv : Value) (A : Around) (outer : List PySem.Env) (s : Shared) (H : Hp) (vs : List V) (Q : VK) (E : XK) (B : List Addr) (ds : List D) (r : D), Room k (A.deeper (envOfC qual (defScope st) s.heap.objs.size f cdv)) → pre ds r →
      Env K B H (L2.start N vs) H (ds.map Sl.dat ++ List.replicate n .emp) → (∀ v H', Same H H' → Dp K (msk B H') v r → Q v H') →
      ∃ t, PSs (cxOf CX0 P w K mg base N qual (defScope st) f cdv A outer s H E).nox (defBody st) t ∧ t { nx := fun _ H' => Q .non H', rt := Q } (L2.start N vs) H) : FnOk P w K mg base CX0 (k + 1) f fd ps (spD K pre) := by
  refine F.ok S (fun vs H Q E h => ?_) (fun cdv A outer s H vs Q E hr h => ?_)
  · obtain ⟨B, ds, r, _, hd, hp, _⟩ := h
    rw [hd.len, hl ds r hp]
  · obtain ⟨B, ds, r, hb, hd, hp, q⟩ := h
    exact body cdv A outer s H vs Q E B ds r hr hp (env_start hb hd (by rw [hd.len, hl ds r hp]; exact hn)) q
theorem DpAll.of {P : Prop} (h : P) : P := h
end
end WS
/-! Sizes; pairs. -/
namespace WS
open PySem PySem.Spec PyProof.Rows L2
structure Sz (n : Nat) (i : Int) : Prop where
  lt : i.natAbs < 2 ^ n
theorem Sz.mono {n m : Nat} {i : Int} (h : Sz n i) (hn : n ≤ m) : Sz m i := ⟨Nat.lt_of_lt_of_le h.lt (Nat.pow_le_pow_right (by decide) hn)⟩
theorem Sz.neg {n : Nat} {i : Int} (h : Sz n i) : Sz n (-i) := ⟨by rw [Int.natAbs_neg]; exact h.lt⟩
theorem Sz.add {n : Nat} {i j : Int} (h : Sz n i) (h' : Sz n j) : Sz (n + 1) (i + j) := ⟨by
  have a := h.lt
  have b := h'.lt
  rw [Nat.pow_succ]
  omega⟩
theorem Sz.sub {n : Nat} {i j : Int} (h : Sz n i) (h' : Sz n j) : Sz (n + 1) (i - j) := ⟨by
  have a := h.lt
  have b := h'.lt
  rw [Nat.pow_succ]
  omega⟩
theorem Sz.mul {n m : Nat} {i j : Int} (h : Sz n i) (h' : Sz m j) : Sz (n + m) (i * j) := ⟨wide_lt h.lt h'.lt⟩
theorem Sz.of {n k : Nat} {i : Int} (h : i.natAbs < k) (hk : k ≤ 2 ^ n) : Sz n i := ⟨Nat.lt_of_lt_of_le h hk⟩
theorem mulW {n m : Nat} {i j : Int} (h : Sz n i) (h' : Sz m j) (hs : n + m ≤ 999000) : CMulW i j :=
  wide_mul (h.mono (Nat.le_add_right n 1)).lt (h'.mono (Nat.le_add_right m 1)).lt (Nat.succ_pos _) (Nat.succ_pos _) (by omega)
theorem divW {n : Nat} {i j : Int} (h : 0 < j) (hj : Sz n j) (hn : n ≤ 8000) : CDivW i j := wide_div h (hj.mono (Nat.le_add_right n 1)).lt (Nat.succ_pos _) (by omega)
/-- a pair of whole numbers, as a list, as a tuple -/
abbrev pL (x : Int × Int) : D := .list [.int x.1, .int x.2]
abbrev pT (x : Int × Int) : D := .tuple [.int x.1, .int x.2]
def IsP (d : D) (x : Int × Int) : Prop := d = pL x ∨ d = pT x
section
variable {K : PySem.W.Frag} {B : List Addr} {Γ : List Sl} {ta tb te : TE} {d d1 d2 : D} {ds : List D}
theorem od_ixP0 {x : Int × Int} (h : IsP d x) : OpD K B (rIx K) d (.int 0) (.int x.1) := by
  rcases h with h | h <;> subst h
  · exact od_ixL rfl
  · exact od_ixT rfl
theorem od_ixP1 {x : Int × Int} (h : IsP d x) : OpD K B (rIx K) d (.int 1) (.int x.2) := by
  rcases h with h | h <;> subst h
  · exact od_ixL rfl
  · exact od_ixT rfl
end
theorem kii : kitB "int" "int" = some true := by decide +kernel
theorem kib : kitB "int" "bool" = some false := by decide +kernel
theorem kll : kitB "list" "list" = some true := by decide +kernel
theorem ktt : kitB "tuple" "tuple" = some true := by decide +kernel
theorem isi_int {K : PySem.W.Frag} {B : List Addr} {Γ : List Sl} {te : TE} {i : Int} (h : DE K B te Γ (.int i)) : DE K B (tCB (rIsi K) (tCons te (tCons (tC (.ty "int")) tNil))) Γ (.bool true) := de_isi h kii
theorem isi_bool {K : PySem.W.Frag} {B : List Addr} {Γ : List Sl} {te : TE} {i : Int} (h : DE K B te Γ (.int i)) : DE K B (tCB (rIsi K) (tCons te (tCons (tC (.ty "bool")) tNil))) Γ (.bool false) := de_isi h kib
theorem isi_list {K : PySem.W.Frag} {B : List Addr} {Γ : List Sl} {te : TE} {ds : List D} (h : DE K B te Γ (.list ds)) : DE K B (tCB (rIsi K) (tCons te (tCons (tC (.ty "list")) tNil))) Γ (.bool true) := de_isi h kll
theorem isi_tup {K : PySem.W.Frag} {B : List Addr} {Γ : List Sl} {te : TE} {ds : List D} (h : DE K B te Γ (.tuple ds)) : DE K B (tCB (rIsi K) (tCons te (tCons (tC (.ty "tuple")) tNil))) Γ (.bool true) := de_isi h ktt
local macro_rules | `(tactic| walk_at "num") => `(tactic| first | assumption | exact mulW (by assumption) (by assumption) (by decide))
local macro_rules | `(tactic| walk_at "de") => `(tactic| first
  | exact de_int | exact de_str | exact de_bl | exact de_non | exact de_var rfl | exact da_nil | exact do_none | assumption
  | ((with_reducible apply da_cons) <;> walk_at "de")
  | ((with_reducible apply de_tup) <;> first | walk_at "de" | (simp; done))
  | ((with_reducible apply de_op) <;> walk_at "de")
  | ((with_reducible show DE _ _ (tCB (rIsi _) (tCons _ (tCons (tC (.ty "int")) tNil))) _ _); apply isi_int; walk_at "de")
  | ((with_reducible show DE _ _ (tCB (rIsi _) (tCons _ (tCons (tC (.ty "bool")) tNil))) _ _); apply isi_bool; walk_at "de")
  | ((with_reducible show DE _ _ (tCB (rIsi _) (tCons _ (tCons (tC (.ty "list")) tNil))) _ _); apply isi_list; walk_at "de")
  | ((with_reducible show DE _ _ (tCB (rIsi _) (tCons _ (tCons (tC (.ty "tuple")) tNil))) _ _); apply isi_tup; walk_at "de")
  | ((with_reducible apply de_cb) <;> walk_at "de")
  | ((with_reducible apply de_neg) <;> walk_at "de")
  | ((with_reducible apply dt_test) <;> walk_at "de")
  | ((with_reducible apply dt_B) <;> walk_at "de")
  | ((with_reducible apply dt_not) <;> walk_at "de")
  | ((with_reducible apply de_notV) <;> walk_at "de")
  | ((with_reducible apply do_some) <;> walk_at "de")
  | exact ca_lenL | exact ca_lenT | exact ca_abs | exact ca_intI | exact ca_intB | exact ca_min2
  | exact od_i0 | exact od_b0
  | exact od_ixL rfl | exact od_ixT rfl
  | exact od_ixP0 (by assumption) | exact od_ixP1 (by assumption)
  | (refine od_i ?_; walk_at "num"))

abbrev s_crossed : Stmt := topS 29
abbrev n_crossed : List Str := ["one", "other"]
theorem sc_crossed : FnScope n_crossed ["one", "other"] (defScope s_crossed) := ⟨rfl, rfl, rfl, by decide +kernel, rfl, by decide +kernel, by decide +kernel⟩
def pre_crossed (ds : List D) (r : D) : Prop := ∃ d1 d2 x y, ds = [d1, d2] ∧ IsP d1 x ∧ IsP d2 y ∧ (Sz 100000 x.1 ∧ Sz 100000 x.2 ∧ Sz 100000 y.1 ∧ Sz 100000 y.2) ∧ r = .int (x.1 * y.2 - x.2 * y.1)
section
variable {P : Program} {w : World} {K : PySem.W.Frag} {mg : Str → Option Value} {base : Heap} {f : Addr} {fd : FuncData}
theorem ok_crossed (T : Bt mg) (F : Fun K "crossed" "crossed" s_crossed f fd) : FnOk P w K mg base CX0 1 f fd ["one", "other"] (spD K pre_crossed) := by
  refine fn_ok F sc_crossed (n := 0) rfl (fun ds r h => ?_) (fun cdv A outer s H vs Q E B ds r hr hp E0 q => ?_)
  · obtain ⟨_, _, _, _, rfl, _⟩ := h; rfl
  obtain ⟨d1, d2, x, y, rfl, h1, h2, ⟨z1, z2, z3, z4⟩, rfl⟩ := hp
  refine ⟨_, (pss_one (ps_ret (pe_op op_sub (pe_op op_mulW (pe_ix (k_ix K rfl) (pv 0) pe_int (fun _ _ => rfl)) (pe_ix (k_ix K rfl) (pv 1) pe_int (fun _ _ => rfl))) (pe_op op_mulW (pe_ix (k_ix K rfl) (pv 0) pe_int (fun _ _ => rfl)) (pe_ix (k_ix K rfl) (pv 1) pe_int (fun _ _ => rfl)))))), ?_⟩
  refine s_ret E0 ?_ fun v H' E1 hv => q v H' E1.ex hv
  walk_at "de"
end
end WS
namespace WS
open PySem PySem.Spec PyProof.Rows L2
local macro_rules | `(tactic| walk_at "num") => `(tactic| first | assumption | exact mulW (by assumption) (by assumption) (by decide))
local macro_rules | `(tactic| walk_at "de") => `(tactic| first
  | exact de_int | exact de_str | exact de_bl | exact de_non | exact de_var rfl | exact da_nil | exact do_none | assumption
  | ((with_reducible apply da_cons) <;> walk_at "de")
  | ((with_reducible apply de_tup) <;> first | walk_at "de" | (simp; done))
  | ((with_reducible apply de_op) <;> walk_at "de")
  | ((with_reducible show DE _ _ (tCB (rIsi _) (tCons _ (tCons (tC (.ty "int")) tNil))) _ _); apply isi_int; walk_at "de")
  | ((with_reducible show DE _ _ (tCB (rIsi _) (tCons _ (tCons (tC (.ty "bool")) tNil))) _ _); apply isi_bool; walk_at "de")
  | ((with_reducible show DE _ _ (tCB (rIsi _) (tCons _ (tCons (tC (.ty "list")) tNil))) _ _); apply isi_list; walk_at "de")
  | ((with_reducible show DE _ _ (tCB (rIsi _) (tCons _ (tCons (tC (.ty "tuple")) tNil))) _ _); apply isi_tup; walk_at "de")
  | ((with_reducible apply de_cb) <;> walk_at "de")
  | ((with_reducible apply de_neg) <;> walk_at "de")
  | ((with_reducible apply dt_test) <;> walk_at "de")
  | ((with_reducible apply dt_B) <;> walk_at "de")
  | ((with_reducible apply dt_not) <;> walk_at "de")
  | ((with_reducible apply de_notV) <;> walk_at "de")
  | ((with_reducible apply do_some) <;> walk_at "de")
  | exact ca_lenL | exact ca_lenT | exact ca_abs | exact ca_intI | exact ca_intB | exact ca_min2
  | exact od_i0 | exact od_b0
  | exact od_ixL rfl | exact od_ixT rfl
  | exact od_ixP0 (by assumption) | exact od_ixP1 (by assumption)
  | (refine od_i ?_; walk_at "num"))

section
variable {P : Program} {w : World} {K : PySem.W.Frag} {mg : Str → Option Value} {base : Heap} {f : Addr} {fd : FuncData}
abbrev s_is_whole : Stmt := topS 8
abbrev n_is_whole : List Str := ["value"]
theorem sc_is_whole : FnScope n_is_whole ["value"] (defScope s_is_whole) := ⟨rfl, rfl, rfl, by decide +kernel, rfl, by decide +kernel, by decide +kernel⟩
def pre_is_whole (ds : List D) (r : D) : Prop := ∃ i, ds = [.int i] ∧ r = .bool true
theorem ok_is_whole (T : Bt mg) (F : Fun K "is_whole" "is_whole" s_is_whole f fd) : FnOk P w K mg base CX0 1 f fd ["value"] (spD K pre_is_whole) := by
  refine fn_ok F sc_is_whole (n := 0) rfl (fun ds r h => ?_) (fun cdv A outer s H vs Q E B ds r hr hp E0 q => ?_)
  · obtain ⟨_, rfl, _⟩ := h; rfl
  obtain ⟨i, rfl, rfl⟩ := hp
  refine ⟨_, (pss_one (ps_ret (pe_and (pe_callB (k_isi K rfl) (by rfl) T.b_isinstance boot_isinstance (pa_cons (pv 0) (pa_cons (pe_bltn (v := .ty "int") (by rfl) T.b_int boot_int rfl) pa_nil))) (pe_one (pe_not (pe_callB (k_isi K rfl) (by rfl) T.b_isinstance boot_isinstance (pa_cons (pv 0) (pa_cons (pe_bltn (v := .ty "bool") (by rfl) T.b_bool boot_bool rfl) pa_nil)))))))), ?_⟩
  refine s_ret E0 (DE.is (de_andV (a := true) (b := true) (by walk_at "de") fun _ => ?_) rfl) fun v H' E1 hv => q v H' E1.ex hv
  exact DE.is (de_notV (a := false) (by walk_at "de")) rfl
abbrev s_is_between : Stmt := topS 9
abbrev n_is_between : List Str := ["value", "low", "high"]
theorem sc_is_between : FnScope n_is_between ["value", "low", "high"] (defScope s_is_between) := ⟨rfl, rfl, rfl, by decide +kernel, rfl, by decide +kernel, by decide +kernel⟩
def pre_is_between (ds : List D) (r : D) : Prop := (∃ v lo hi : Int, ds = [.int v, .int lo, .int hi] ∧ r = .bool (decide (lo ≤ v) && decide (v ≤ hi))) ∨ ∃ v lo : Int, ds = [.int v, .int lo, .none] ∧ r = .bool (decide (lo ≤ v))
theorem ok_is_between (T : Bt mg) (F : Fun K "is_between" "is_between" s_is_between f fd) (F_is_whole : Fn P w K mg base "is_whole" 1 ["value"] (spD K pre_is_whole)) : FnOk P w K mg base CX0 2 f fd ["value", "low", "high"] (spD K pre_is_between) := by
  refine fn_ok F sc_is_between (n := 0) rfl (fun ds r h => ?_) (fun cdv A outer s H vs Q E B ds r hr hp E0 q => ?_)
  · rcases h with ⟨_, _, _, rfl, _⟩ | ⟨_, _, rfl, _⟩ <;> rfl
  refine ⟨_, (pss_one (ps_ret (pe_and (pe_fn F_is_whole (hr.mono (by decide)) (by rfl) (pa_cons (pv 0) pa_nil)) (pe_and (pe_cmpR op_le (pv 1) (pv 0) (nomark _)) (pe_one (pe_or (pe_cmpR op_isN (pv 2) pe_non (nomark _)) (pe_one (pe_cmpR op_le (pv 0) (pv 2) (nomark _))))))))), ?_⟩
  rcases hp with ⟨v, lo, hi, rfl, rfl⟩ | ⟨v, lo, rfl, rfl⟩
  · refine s_ret E0 (DE.is (de_andV (a := true) (b := decide (lo ≤ v) && decide (v ≤ hi)) (de_call (ds := [.int v]) (by walk_at "de") ⟨v, rfl, rfl⟩) fun _ => ?_) (by simp)) fun v H' E1 hv => q v H' E1.ex hv
    refine de_andV (by walk_at "de") fun _ => ?_
    exact DE.is (de_orV (a := false) (b := decide (v ≤ hi)) (DE.is (de_op (by walk_at "de") (by walk_at "de") od_isN) rfl) fun _ => by walk_at "de") (by simp)
  · refine s_ret E0 (DE.is (de_andV (a := true) (b := decide (lo ≤ v) && true) (de_call (ds := [.int v]) (by walk_at "de") ⟨v, rfl, rfl⟩) fun _ => ?_) (by simp)) fun v H' E1 hv => q v H' E1.ex hv
    refine de_andV (by walk_at "de") fun _ => ?_
    exact DE.is (de_orV (a := true) (b := true) (DE.is (de_op (by walk_at "de") (by walk_at "de") od_isN) rfl) (fun z => nomatch z)) rfl
end
end WS
namespace WS
open PySem PySem.Spec PyProof.Rows L2
local macro_rules | `(tactic| walk_at "num") => `(tactic| first | assumption | exact mulW (by assumption) (by assumption) (by decide))
local macro_rules | `(tactic| walk_at "de") => `(tactic| first
  | exact de_int | exact de_str | exact de_bl | exact de_non | exact de_var rfl | exact da_nil | exact do_none | assumption
  | ((with_reducible apply da_cons) <;> walk_at "de")
  | ((with_reducible apply de_tup) <;> first | walk_at "de" | (simp; done))
  | ((with_reducible apply de_op) <;> walk_at "de")
  | ((with_reducible show DE _ _ (tCB (rIsi _) (tCons _ (tCons (tC (.ty "int")) tNil))) _ _); apply isi_int; walk_at "de")
  | ((with_reducible show DE _ _ (tCB (rIsi _) (tCons _ (tCons (tC (.ty "bool")) tNil))) _ _); apply isi_bool; walk_at "de")
  | ((with_reducible show DE _ _ (tCB (rIsi _) (tCons _ (tCons (tC (.ty "list")) tNil))) _ _); apply isi_list; walk_at "de")
  | ((with_reducible show DE _ _ (tCB (rIsi _) (tCons _ (tCons (tC (.ty "tuple")) tNil))) _ _); apply isi_tup; walk_at "de")
  | ((with_reducible apply de_cb) <;> walk_at "de")
  | ((with_reducible apply de_neg) <;> walk_at "de")
  | ((with_reducible apply dt_test) <;> walk_at "de")
  | ((with_reducible apply dt_B) <;> walk_at "de")
  | ((with_reducible apply dt_not) <;> walk_at "de")
  | ((with_reducible apply de_notV) <;> walk_at "de")
  | ((with_reducible apply do_some) <;> walk_at "de")
  | exact ca_lenL | exact ca_lenT | exact ca_abs | exact ca_intI | exact ca_intB | exact ca_min2
  | exact od_i0 | exact od_b0
  | exact od_ixL rfl | exact od_ixT rfl
  | exact od_ixP0 (by assumption) | exact od_ixP1 (by assumption)
  | (refine od_i ?_; walk_at "num"))

theorem div1 (a : Int) : CDivW a 1 := divW (n := 1) (by decide) ⟨show (1 : Int).natAbs < 2 ^ 1 by decide⟩ (by decide)
theorem shaped_nil : SeqAt.shaped (.list []) = true := by decide +kernel
section
variable {P : Program} {w : World} {K : PySem.W.Frag} {mg : Str → Option Value} {base : Heap} {f : Addr} {fd : FuncData}
abbrev s_are_wholes : Stmt := topS 10
abbrev n_are_wholes : List Str := ["value", "item"]
theorem sc_are_wholes : FnScope n_are_wholes ["value"] (defScope s_are_wholes) := ⟨rfl, rfl, rfl, by decide +kernel, rfl, by decide +kernel, by decide +kernel⟩
def pre_are_wholes (ds : List D) (r : D) : Prop := ∃ ns : List Int, ns.length ≤ 1000 ∧ ds = [.list (ns.map .int)] ∧ r = .bool true
theorem ok_are_wholes (T : Bt mg) (F : Fun K "are_wholes" "are_wholes" s_are_wholes f fd) (F_is_whole : Fn P w K mg base "is_whole" 1 ["value"] (spD K pre_is_whole)) : FnOk P w K mg base CX0 2 f fd ["value"] (spD K pre_are_wholes) := by
  refine fn_ok F sc_are_wholes (n := 1) rfl (fun ds r h => ?_) (fun cdv A outer s H vs Q E B ds r hr hp E0 q => ?_)
  · obtain ⟨_, _, rfl, _⟩ := h; rfl
  obtain ⟨ns, hl, rfl, rfl⟩ := hp
  refine ⟨_, (pss_one (ps_ret (pe_and (pe_callB (k_isi K rfl) (by rfl) T.b_isinstance boot_isinstance (pa_cons (pv 0) (pa_cons (pe_bltn (v := .ty "list") (by rfl) T.b_list boot_list rfl) pa_nil))) (pe_one (pe_cmpR (k_eq K rfl hr.units) (pe_lc (own := [("item", 1)]) rfl sc_are_wholes.nd (k_pl K rfl (pv 0)) (blkOk_by (by kernel_rfl)) (fun _ _ _ _ _ => pg_name (i := 1) sc_are_wholes.nd rfl (by first | exact Or.inl rfl | exact Or.inr rfl)) (fun _ _ _ _ _ => (pts_one (pt_not (pt_val (pe_fn F_is_whole (hr.mono (by decide)) (by rfl) (pa_cons (pv 1) pa_nil)))))) (fun _ _ _ _ _ => (pv 1))) (pe_lst pa_nil) (nomark _)))))), ?_⟩
  refine s_ret E0 (DE.is (de_andV (a := true) (b := true) (by walk_at "de") fun _ => ?_) rfl) fun v H' E1 hv => q v H' E1.ex hv
  refine DE.is (de_op (DL.de (DL.is (dl_lcF (xs := ns) (enc := PyData.int) _ (fun _ => false) (fun i => .int i) (di_list (de_var rfl)).dw (by omega) fun l x hx => ⟨dg_name (by simp), ?_, fun z => nomatch z⟩) (by simp))) (DL.de (dl_lst da_nil (by simp))) (od_eq shaped_nil shaped_nil)) rfl
  exact dt_not (b := true) (dt_B (de_call (ds := [.int x]) (by walk_at "de") ⟨x, rfl, rfl⟩))
abbrev s_common_divisor : Stmt := topS 11
abbrev n_common_divisor : List Str := ["one", "other"]
theorem sc_common_divisor : FnScope n_common_divisor ["one", "other"] (defScope s_common_divisor) := ⟨rfl, rfl, rfl, by decide +kernel, rfl, by decide +kernel, by decide +kernel⟩
def pre_common_divisor (ds : List D) (r : D) : Prop := ∃ a : Int, ds = [.int a, .int 1] ∧ r = .int 1
theorem ok_common_divisor (T : Bt mg) (F : Fun K "common_divisor" "common_divisor" s_common_divisor f fd) : FnOk P w K mg base CX0 1 f fd ["one", "other"] (spD K pre_common_divisor) := by
  refine fn_ok F sc_common_divisor (n := 0) rfl (fun ds r h => ?_) (fun cdv A outer s H vs Q E B ds r hr hp E0 q => ?_)
  · obtain ⟨_, rfl, _⟩ := h; rfl
  obtain ⟨a, rfl, rfl⟩ := hp
  refine ⟨_, (pss_cons (ps_par (i := 0) (j := 1) rfl sc_common_divisor.nd rfl rfl (by decide) rfl rfl (pa_cons (pe_callB call_abs (by rfl) T.b_abs boot_abs (pa_cons (pv 0) pa_nil)) (pa_cons (pe_callB call_abs (by rfl) T.b_abs boot_abs (pa_cons (pv 1) pa_nil)) pa_nil)) rfl)
      (pss_cons (ps_while PassesOwn.never (pt_cmpR (k_ne K rfl hr.units) (pv 1) pe_int (nomark _)) (pss_one (ps_par (i := 0) (j := 1) rfl sc_common_divisor.nd rfl rfl (by decide) rfl rfl (pa_cons (pv 1) (pa_cons (pe_op op_mod (pv 0) (pv 1)) pa_nil)) rfl)))
      (pss_one (ps_ret (pv 0))))), ?_⟩
  refine q_par E0 (d1 := .int (if a < 0 then -a else a)) (d2 := .int 1) (by walk_at "de") fun σ1 H1 E1 => ?_
  refine q_while (α := Bool) (fun b => if b = true then [.dat (.int 1), .dat (.int 0)] else [.dat (.int (if a < 0 then -a else a)), .dat (.int 1)]) (fun _ => True) (fun b => !b) (fun b => if b = true then 0 else 1) false trivial E1 (fun b _ => ?_) (fun b _ hc => ?_) (fun b _ hc σ2 H2 E2 => ?_)
  · cases b
    · exact (dt_test (de_op (by walk_at "de") (by walk_at "de") (od_ne (d1 := .int 1) (d2 := .int 0) (by decide +kernel) (by decide +kernel)))).is (by decide +kernel)
    · exact (dt_test (de_op (by walk_at "de") (by walk_at "de") (od_ne (d1 := .int 0) (d2 := .int 0) (by decide +kernel) (by decide +kernel)))).is (by decide +kernel)
  · have hb : b = false := by cases b <;> simp_all
    subst hb
    refine ⟨true, trivial, by decide, fun σ2 H2 E2 N hN _ _ _ => ?_⟩
    refine s_par E2 (d1 := .int 1) (d2 := .int 0) (DA.is (da_cons (by walk_at "de") (da_cons (de_op (by walk_at "de") (by walk_at "de") (od_i (C := fun _ j => 0 < j) (f := fun i j => i % j) (i := if a < 0 then -a else a) (j := 1) (by decide))) da_nil)) ?_) fun σ3 H3 E3 => hN σ3 H3 E3
    rw [Int.emod_one]
  · have hb : b = true := by cases b <;> simp_all
    subst hb
    refine s_ret E2 (de_var rfl) ?_
    exact fun v H' E3 hv => q v H' E3.ex hv
abbrev s_fraction : Stmt := topS 12
abbrev n_fraction : List Str := ["top", "under", "common"]
theorem sc_fraction : FnScope n_fraction ["top", "under"] (defScope s_fraction) := ⟨rfl, rfl, rfl, by decide +kernel, rfl, by decide +kernel, by decide +kernel⟩
def pre_fraction (ds : List D) (r : D) : Prop := ∃ a : Int, ds = [.int a, .int 1] ∧ r = .tuple [.int a, .int 1]
theorem ok_fraction (T : Bt mg) (F : Fun K "fraction" "fraction" s_fraction f fd) (F_common_divisor : Fn P w K mg base "common_divisor" 1 ["one", "other"] (spD K pre_common_divisor)) : FnOk P w K mg base CX0 2 f fd ["top", "under"] (spD K pre_fraction) := by
  refine fn_ok F sc_fraction (n := 1) rfl (fun ds r h => ?_) (fun cdv A outer s H vs Q E B ds r hr hp E0 q => ?_)
  · obtain ⟨_, rfl, _⟩ := h; rfl
  obtain ⟨a, rfl, rfl⟩ := hp
  refine ⟨_, (pss_cons (ps_set (i := 2) sc_fraction.nd rfl (by first | exact Or.inl rfl | exact Or.inr rfl) (pe_fn F_common_divisor (hr.mono (by decide)) (by rfl) (pa_cons (pv 0) (pa_cons (pv 1) pa_nil))))
      (pss_cons (ps_if (pt_cmpR op_lt (pv 1) pe_int (nomark _)) (pss_one (ps_set (i := 2) sc_fraction.nd rfl (by first | exact Or.inl rfl | exact Or.inr rfl) (pe_op op_sub pe_int (pv 2)))) pss_nil)
      (pss_one (ps_ret (pe_tup (pa_cons (pe_op op_fdivW (pv 0) (pv 2)) (pa_cons (pe_op op_fdivW (pv 1) (pv 2)) pa_nil))))))), ?_⟩
  refine q_asg E0 (d := .int 1) (de_call (ds := [.int a, .int 1]) (by walk_at "de") ⟨a, rfl, rfl⟩) fun σ1 H1 E1 => ?_
  refine q_ifN E1 ((dt_test (de_op (de_var rfl) de_int od_b0)).is rfl) fun H2 E2 => ?_
  refine s_ret E2 (DE.is (de_tup (da_cons (de_op (by walk_at "de") (by walk_at "de") (od_i (div1 a))) (da_cons (de_op (by walk_at "de") (by walk_at "de") (od_i (div1 1))) da_nil)) (by simp)) ?_) fun v H' E1 hv => q v H' E1.ex hv
  rw [Int.ediv_one]; rfl
abbrev s_check_number : Stmt := topS 13
abbrev n_check_number : List Str := ["number", "low", "high"]
theorem sc_check_number : FnScope n_check_number ["number", "low", "high"] (defScope s_check_number) := ⟨rfl, rfl, rfl, by decide +kernel, rfl, by decide +kernel, by decide +kernel⟩
def pre_check_number (ds : List D) (r : D) : Prop := ds = [.int 2, .int 1, .int 4] ∧ r = .none
theorem ok_check_number (T : Bt mg) (F : Fun K "check_number" "check_number" s_check_number f fd) (F_is_between : Fn P w K mg base "is_between" 2 ["value", "low", "high"] (spD K pre_is_between)) : FnOk P w K mg base CX0 3 f fd ["number", "low", "high"] (spD K pre_check_number) := by
  refine fn_ok F sc_check_number (n := 0) rfl (fun ds r h => ?_) (fun cdv A outer s H vs Q E B ds r hr hp E0 q => ?_)
  · obtain ⟨rfl, _⟩ := h; rfl
  obtain ⟨rfl, rfl⟩ := hp
  refine ⟨_, (pss_one (ps_if (pt_not (pt_val (pe_fn F_is_between (hr.mono (by decide)) (by rfl) (pa_cons (pv 0) (pa_cons (pv 1) (pa_cons (pv 2) pa_nil)))))) (pss_one ps_never) pss_nil)), ?_⟩
  refine s_if E0 (b := false) ((dt_not (b := true) (dt_B (de_call (ds := [.int 2, .int 1, .int 4]) (by walk_at "de") (.inl ⟨2, 1, 4, rfl, rfl⟩)))).is rfl) (fun z => nomatch z) fun _ H2 E2 => ?_
  exact q _ _ E2.ex .non
end
end WS
namespace WS
/-! ### the length of the shortest way, by nearest whole numbers -/
def LF : Nat → Nat → Nat → Nat
  | 0, _, _ => 0
  | n + 1, a, b => if b = 0 then 0 else 1 + LF n b (min (a % b) (b - a % b))
theorem LF_any : ∀ (n m a b : Nat), b < n → b < m → LF n a b = LF m a b
  | 0, _, _, _, h, _ => absurd h (Nat.not_lt_zero _)
  | _ + 1, 0, _, _, _, h => absurd h (Nat.not_lt_zero _)
  | n + 1, m + 1, a, b, h1, h2 => by
    show (if b = 0 then 0 else 1 + LF n b (min (a % b) (b - a % b))) = (if b = 0 then 0 else 1 + LF m b (min (a % b) (b - a % b)))
    by_cases hb : b = 0
    · rw [if_pos hb, if_pos hb]
    · rw [if_neg hb, if_neg hb]
      have h3 := Nat.mod_lt a (Nat.pos_of_ne_zero hb)
      rw [LF_any n m b _ (by omega) (by omega)]
def L (a b : Nat) : Nat := LF (b + 1) a b
theorem L_zero (a : Nat) : L a 0 = 0 := rfl
theorem L_pos {a b : Nat} (h : 0 < b) : L a b = 1 + L b (min (a % b) (b - a % b)) := by
  have h3 := Nat.mod_lt a h
  show (if b = 0 then 0 else 1 + LF b b (min (a % b) (b - a % b))) = _
  rw [if_neg (by omega)]
  show _ = 1 + LF _ _ _
  rw [LF_any b _ b _ (by omega) (Nat.lt_succ_self _)]
/-- the rest, nearest to nothing -/
def rs (a b : Nat) : Nat := min (a % b) (b - a % b)
theorem L_rs {a b : Nat} (h : 0 < b) : L a b = 1 + L b (rs a b) := L_pos h
theorem L_of_rs {a c b : Nat} (h : 0 < b → rs a b = rs c b) : L a b = L c b := by
  by_cases hb : b = 0
  · subst hb; rfl
  · have p := Nat.pos_of_ne_zero hb
    rw [L_rs p, L_rs p, h p]
theorem rs_eq {a b q r : Nat} (h : a = q * b + r) (hr : 2 * r ≤ b) (hb : 0 < b) : rs a b = r := by
  by_cases h2 : r < b
  · have e : a % b = r := by rw [h, Nat.mul_comm, Nat.mul_add_mod, Nat.mod_eq_of_lt h2]
    unfold rs; rw [e]; omega
  · omega
theorem rs_eq' {a b q r : Nat} (h : a + r = (q + 1) * b) (hr : 2 * r ≤ b) (hb : 0 < b) : rs a b = r := by
  by_cases h0 : r = 0
  · subst h0
    exact rs_eq (q := q + 1) (by omega) (by omega) hb
  · have h1 : a = q * b + (b - r) := by rw [Nat.add_mul] at h; omega
    have e : a % b = b - r := by rw [h1, Nat.mul_comm, Nat.mul_add_mod, Nat.mod_eq_of_lt (by omega)]
    unfold rs; rw [e]; omega
theorem rs_le (a b : Nat) (hb : 0 < b) : 2 * rs a b ≤ b := by
  have := Nat.mod_lt a hb
  unfold rs; omega
theorem rs_small {a b : Nat} (h : 2 * a ≤ b) (hb : 0 < b) : rs a b = a := rs_eq (q := 0) (by omega) h hb
theorem L_small {a b : Nat} (h : 2 * a ≤ b) (hb : 0 < b) : L a b = 1 + L b a := by rw [L_rs hb, rs_small h hb]
theorem L_addb (a b : Nat) : L (b + a) b = L a b := L_of_rs fun _ => by unfold rs; rw [Nat.add_mod_left]
theorem L_self (b : Nat) (h : 0 < b) : L b b = 1 := by
  rw [L_rs h, rs_eq (q := 1) (r := 0) (by omega) (by omega) h]; rfl
/-! ### no other choice of a whole number is better -/
theorem L_back : ∀ (n d s : Nat), d ≤ n → 2 * s ≤ d → L d s ≤ L d (d - s)
  | 0, d, s, h, h2 => by
    have e : s = 0 := by omega
    subst e
    exact Nat.zero_le _
  | n + 1, d, s, h, h2 => by
    by_cases h0 : s = 0
    · subst h0; exact Nat.zero_le _
    by_cases ht : 2 * s = d
    · have e : d - s = s := by omega
      rw [e]; exact Nat.le_refl _
    have hu : 0 < d - s := by omega
    by_cases h3 : 3 * s ≤ d
    · rw [L_rs hu, rs_eq (q := 1) (r := s) (by omega) (by omega) hu]
      have e : L (d - s) s = L d s := by
        have := L_addb (d - s) s
        rw [show s + (d - s) = d by omega] at this
        exact this.symm
      rw [e]; omega
    · have e1 : rs d (d - s) = d - 2 * s := rs_eq' (q := 1) (r := d - 2 * s) (by omega) (by omega) hu
      have e2 : L (d - s) (d - 2 * s) = L s (d - 2 * s) := by
        have := L_addb s (d - 2 * s)
        rw [show d - 2 * s + s = d - s by omega] at this
        exact this
      rw [L_rs hu, e1, e2]
      by_cases h4 : 2 * (d - 2 * s) ≤ s
      · have e3 : rs d s = d - 2 * s := rs_eq (q := 2) (by omega) h4 (by omega)
        rw [L_rs (show 0 < s by omega), e3]; exact Nat.le_refl _
      · have e3 : rs d s = 3 * s - d := rs_eq' (q := 2) (by omega) (by omega) (by omega)
        have ih := L_back n s (3 * s - d) (by omega) (by omega)
        rw [show s - (3 * s - d) = d - 2 * s by omega] at ih
        rw [L_rs (show 0 < s by omega), e3]; omega
theorem L_more {d s m : Nat} (h : 2 * s ≤ d) (hm : 0 < m) : L d s ≤ L d (m * d + s) := by
  by_cases h0 : s = 0
  · subst h0; exact Nat.zero_le _
  have hd : 0 < d := by omega
  by_cases h1 : m = 1
  · subst h1
    have hu : 0 < 1 * d + s := by omega
    have e1 : rs d (1 * d + s) = s := rs_eq' (q := 0) (by omega) (by omega) hu
    have e2 : L (1 * d + s) s = L d s := by
      have := L_addb d s
      rw [show s + d = 1 * d + s by omega] at this
      exact this
    rw [L_rs hu, e1, e2]; omega
  · have h2 : 2 * d ≤ m * d := Nat.mul_le_mul_right d (by omega)
    have hu : 0 < m * d + s := by omega
    have e1 : rs d (m * d + s) = d := rs_small (by omega) hu
    have e2 : L (m * d + s) d = L s d := L_of_rs fun _ => by unfold rs; rw [Nat.mul_comm, Nat.mul_add_mod]
    rw [L_rs hu, e1, e2, L_small h hd]; omega
theorem L_less {d s m : Nat} (h : 2 * s ≤ d) (hm : 0 < m) : L d s ≤ L d (m * d - s) := by
  by_cases h0 : s = 0
  · subst h0; exact Nat.zero_le _
  have hd : 0 < d := by omega
  by_cases h1 : m = 1
  · subst h1
    have := L_back d d s (Nat.le_refl _) h
    rw [Nat.one_mul]; exact this
  · by_cases h2 : m = 2
    · subst h2
      have hu : 0 < 2 * d - s := by omega
      have e1 : rs d (2 * d - s) = d - s := rs_eq' (q := 0) (by omega) (by omega) hu
      have e2 : L (2 * d - s) (d - s) = L d (d - s) := by
        have := L_addb d (d - s)
        rw [show d - s + d = 2 * d - s by omega] at this
        exact this
      have := L_back d d s (Nat.le_refl _) h
      rw [L_rs hu, e1, e2]; omega
    · have h3 : 3 * d ≤ m * d := Nat.mul_le_mul_right d (by omega)
      have hu : 0 < m * d - s := by omega
      have e1 : rs d (m * d - s) = d := rs_small (by omega) hu
      have e2 : L (m * d - s) d = L s d := L_of_rs fun _ => by
        rw [rs_small h hd]
        obtain ⟨k, rfl⟩ : ∃ k, m = k + 1 := ⟨m - 1, by omega⟩
        exact rs_eq' (q := k) (by omega) h hd
      rw [L_rs hu, e1, e2, L_small h hd]; omega
/-! ### over whole numbers -/
def LI (a b : Int) : Nat := L a.natAbs b.natAbs
/-- the nearest whole number, and what is left -/
theorem near (a b : Int) (hb : b ≠ 0) : ∃ q t : Int, a = q * b + t ∧ t.natAbs = rs a.natAbs b.natAbs := by
  have hp : 0 < b.natAbs := by omega
  have h1 := Nat.mod_lt a.natAbs hp
  have h2 := Nat.div_add_mod a.natAbs b.natAbs
  generalize hd : a.natAbs / b.natAbs = d at h2
  generalize hm : a.natAbs % b.natAbs = m at h1 h2
  have hr : rs a.natAbs b.natAbs = min m (b.natAbs - m) := by unfold rs; rw [hm]
  have h3 : (b.natAbs : Int) * d + m = a.natAbs := by exact_mod_cast h2
  by_cases hs : m ≤ b.natAbs - m
  · rw [hr, Nat.min_eq_left hs]
    refine ⟨a.sign * b.sign * d, a.sign * m, ?_, ?_⟩
    · have e1 := Int.sign_mul_natAbs a
      have e2 := Int.sign_mul_natAbs b
      have e3 := Int.mul_sign_self b
      grind
    · rw [Int.natAbs_mul]
      by_cases h0 : a = 0
      · subst h0; simp at h3 ⊢; omega
      · rw [Int.natAbs_sign_of_ne_zero h0]; omega
  · rw [hr, Nat.min_eq_right (by omega)]
    refine ⟨a.sign * b.sign * (d + 1), 0 - a.sign * (b.natAbs - m : Nat), ?_, ?_⟩
    · have e1 := Int.sign_mul_natAbs a
      have e2 := Int.sign_mul_natAbs b
      have e3 := Int.mul_sign_self b
      have e4 : ((b.natAbs - m : Nat) : Int) = b.natAbs - m := by omega
      grind
    · have h0 : a ≠ 0 := by
        intro h0
        subst h0
        rw [Int.natAbs_zero] at h2
        have : m = 0 := by omega
        omega
      rw [Int.zero_sub, Int.natAbs_neg, Int.natAbs_mul, Int.natAbs_sign_of_ne_zero h0]; omega
theorem LI_greedy (a b n : Int) : LI a b ≤ 1 + LI b (a - n * b) := by
  by_cases hb : b = 0
  · subst hb; exact Nat.zero_le _
  obtain ⟨q, t, e, ht⟩ := near a b hb
  have hp : 0 < b.natAbs := by omega
  have hs := rs_le a.natAbs b.natAbs hp
  have e1 : a - n * b = (q - n) * b + t := by rw [e, Int.sub_mul]; omega
  unfold LI
  rw [L_rs hp, ← ht, e1]
  rw [← ht] at hs
  have hk : ((q - n) * b).natAbs = (q - n).natAbs * b.natAbs := Int.natAbs_mul _ _
  generalize (q - n) * b = p at hk
  by_cases h0 : (q - n).natAbs = 0
  · rw [h0, Nat.zero_mul] at hk
    rw [show (p + t).natAbs = t.natAbs by omega]; exact Nat.le_refl _
  · have h1 : 1 * b.natAbs ≤ (q - n).natAbs * b.natAbs := Nat.mul_le_mul_right _ (by omega)
    have h2 := L_more hs (show 0 < (q - n).natAbs by omega)
    have h3 := L_less hs (show 0 < (q - n).natAbs by omega)
    rcases (show (p + t).natAbs = (q - n).natAbs * b.natAbs + t.natAbs ∨ (p + t).natAbs = (q - n).natAbs * b.natAbs - t.natAbs by omega) with e2 | e2 <;> rw [e2] <;> omega
theorem LI_near {a b q t : Int} (h : a = q * b + t) (hb : b ≠ 0) (ht : 2 * t.natAbs ≤ b.natAbs) : LI a b = 1 + LI b t := by
  have h1 := LI_greedy a b q
  rw [show a - q * b = t by omega] at h1
  obtain ⟨q', t', e, e'⟩ := near a b hb
  have hp : 0 < b.natAbs := by omega
  have hs := rs_le a.natAbs b.natAbs hp
  have h2 : LI a b = 1 + LI b t' := by unfold LI; rw [L_rs hp, ← e']
  have h3 : (q' - q) * b = t - t' := by rw [Int.sub_mul]; omega
  have h4 : (q' - q).natAbs * b.natAbs = (t - t').natAbs := by rw [← Int.natAbs_mul, h3]
  by_cases h0 : (q' - q).natAbs = 0
  · rw [h0, Nat.zero_mul] at h4
    rw [h2, show t' = t by omega]
  · have h5 : 1 * b.natAbs ≤ (q' - q).natAbs * b.natAbs := Nat.mul_le_mul_right _ (by omega)
    rw [h2]
    unfold LI
    rw [show t'.natAbs = t.natAbs by omega]
theorem LI_neg1 (a b : Int) : LI (-a) b = LI a b := by unfold LI; rw [Int.natAbs_neg]
theorem LI_neg2 (a b : Int) : LI a (-b) = LI a b := by unfold LI; rw [Int.natAbs_neg]
theorem natAbs_one_of_mul {x y : Int} (h : x * y = 1 ∨ x * y = -1) : x.natAbs = 1 ∧ y.natAbs = 1 := by
  have h1 : x.natAbs * y.natAbs = 1 := by rw [← Int.natAbs_mul]; omega
  exact ⟨Nat.eq_one_of_mul_eq_one_right h1, Nat.eq_one_of_mul_eq_one_left h1⟩
/-- neighbours are one apart at most -/
theorem LI_lip : ∀ (n : Nat) (a b c d : Int), b.natAbs ≤ n → a * d - b * c = 1 ∨ a * d - b * c = -1 → LI c d ≤ LI a b + 1 := by
  intro n
  induction n with
  | zero =>
    intro a b c d h hd
    have hb : b = 0 := by omega
    subst hb
    rw [Int.zero_mul, Int.sub_zero] at hd
    obtain ⟨_, h2⟩ := natAbs_one_of_mul hd
    unfold LI
    rw [h2, L_rs (by omega), rs_eq (q := c.natAbs) (r := 0) (by omega) (by omega) (by omega)]
    show 1 + L 1 0 ≤ _
    rw [L_zero]; omega
  | succ n ih =>
    intro a b c d h hd
    by_cases hb : b = 0
    · exact ih a b c d (by omega) hd
    obtain ⟨q, t, e, ht⟩ := near a b hb
    have hp : 0 < b.natAbs := by omega
    have hs := rs_le a.natAbs b.natAbs hp
    have h1 : LI a b = 1 + LI b t := LI_near e hb (by omega)
    have h2 := LI_greedy c d q
    have h3 := ih b t d (c - q * d) (by omega) (by
      have : b * (c - q * d) - t * d = -(a * d - b * c) := by subst e; grind
      omega)
    omega
/-! ### matrices of two ways -/
structure Mx where
  a : Int
  b : Int
  c : Int
  d : Int
  deriving DecidableEq
def Mx.det (M : Mx) : Int := M.a * M.d - M.b * M.c
def Uni (M : Mx) : Prop := M.det = 1 ∨ M.det = -1
def Mx.lift0 (w : Int) (M : Mx) : Mx := ⟨M.a + w * M.c, M.b + w * M.d, M.c, M.d⟩
def Mx.lift1 (w : Int) (M : Mx) : Mx := ⟨M.a, M.b, M.c + w * M.a, M.d + w * M.b⟩
def Mx.turn0 (M : Mx) : Mx := ⟨-M.a, -M.b, M.c, M.d⟩
def Mx.turn1 (M : Mx) : Mx := ⟨M.a, M.b, -M.c, -M.d⟩
def Mx.swap (M : Mx) : Mx := ⟨M.c, M.d, M.a, M.b⟩
def Mx.tr (M : Mx) : Mx := ⟨M.a, M.c, M.b, M.d⟩
def Mx.one : Mx := ⟨1, 0, 0, 1⟩
theorem det_lift0 (w : Int) (M : Mx) : (M.lift0 w).det = M.det := by unfold Mx.lift0 Mx.det; grind
theorem det_lift1 (w : Int) (M : Mx) : (M.lift1 w).det = M.det := by unfold Mx.lift1 Mx.det; grind
theorem det_turn0 (M : Mx) : M.turn0.det = -M.det := by unfold Mx.turn0 Mx.det; grind
theorem det_turn1 (M : Mx) : M.turn1.det = -M.det := by unfold Mx.turn1 Mx.det; grind
theorem det_swap (M : Mx) : M.swap.det = -M.det := by unfold Mx.swap Mx.det; grind
theorem det_tr (M : Mx) : M.tr.det = M.det := by unfold Mx.tr Mx.det; grind
/-- the rows are the ways themselves, but for signs and turns -/
def unit (M : Mx) : Bool := (M.b == 0 && M.c == 0) || (M.a == 0 && M.d == 0)
def m4 (w x y z : Nat) : Nat := min (min w x) (min y z)
def fw (M : Mx) : Nat := if unit M = true then 0 else 1 + m4 (LI M.a M.b) (LI M.c M.d) (LI M.b M.a) (LI M.d M.c)
inductive W : Nat → Mx → Prop
  | one : W 0 Mx.one
  | lift0 {n : Nat} {M : Mx} (w : Int) : W n M → W (n + 1) (M.lift0 w)
  | lift1 {n : Nat} {M : Mx} (w : Int) : W n M → W (n + 1) (M.lift1 w)
  | turn0 {n : Nat} {M : Mx} : W n M → W n M.turn0
  | turn1 {n : Nat} {M : Mx} : W n M → W n M.turn1
  | swap {n : Nat} {M : Mx} : W n M → W n M.swap
theorem W.uni {n : Nat} {M : Mx} (h : W n M) : Uni M := by
  induction h with
  | one => exact .inl rfl
  | lift0 w _ ih => unfold Uni at *; rw [det_lift0]; exact ih
  | lift1 w _ ih => unfold Uni at *; rw [det_lift1]; exact ih
  | turn0 _ ih => unfold Uni at *; rw [det_turn0]; omega
  | turn1 _ ih => unfold Uni at *; rw [det_turn1]; omega
  | swap _ ih => unfold Uni at *; rw [det_swap]; omega
theorem m4_swap (w x y z : Nat) : m4 x w z y = m4 w x y z := by unfold m4; omega
theorem m4_flip (w x y z : Nat) : m4 y z w x = m4 w x y z := by unfold m4; omega
theorem unit_iff (M : Mx) : unit M = true ↔ (M.b = 0 ∧ M.c = 0) ∨ (M.a = 0 ∧ M.d = 0) := by
  unfold unit; simp
theorem unit_congr {M N : Mx} (h : ((M.b = 0 ∧ M.c = 0) ∨ (M.a = 0 ∧ M.d = 0)) ↔ ((N.b = 0 ∧ N.c = 0) ∨ (N.a = 0 ∧ N.d = 0))) : unit M = unit N := by
  rw [Bool.eq_iff_iff, unit_iff, unit_iff]; exact h
theorem fw_turn0 (M : Mx) : fw M.turn0 = fw M := by
  have h : unit M.turn0 = unit M := unit_congr (by unfold Mx.turn0; simp)
  unfold fw; rw [h]; unfold Mx.turn0; simp only [LI_neg1, LI_neg2]
theorem fw_turn1 (M : Mx) : fw M.turn1 = fw M := by
  have h : unit M.turn1 = unit M := unit_congr (by unfold Mx.turn1; simp)
  unfold fw; rw [h]; unfold Mx.turn1; simp only [LI_neg1, LI_neg2]
theorem fw_swap (M : Mx) : fw M.swap = fw M := by
  have h : unit M.swap = unit M := unit_congr (by unfold Mx.swap; simp only; omega)
  unfold fw; rw [h]; unfold Mx.swap; simp only [m4_swap (LI M.a M.b) (LI M.c M.d)]
theorem LI_zero (a : Int) : LI a 0 = 0 := rfl
theorem fw_lift0 (w : Int) {M : Mx} (hu : Uni M) : fw (M.lift0 w) ≤ fw M + 1 := by
  unfold Uni Mx.det at hu
  have l1 := LI_lip _ M.a M.b M.c M.d (Nat.le_refl _) (by omega)
  have l2 := LI_lip _ M.b M.a M.d M.c (Nat.le_refl _) (by omega)
  by_cases h : unit M = true
  · have e : LI M.c M.d = 0 ∨ LI M.d M.c = 0 := by
      rcases (unit_iff M).mp h with ⟨h1, h2⟩ | ⟨h1, h2⟩
      · rw [h2]; exact .inr (LI_zero _)
      · rw [h2]; exact .inl (LI_zero _)
    have k : fw (M.lift0 w) ≤ 1 := by
      unfold fw
      split
      · omega
      · show 1 + m4 _ (LI M.c M.d) _ (LI M.d M.c) ≤ 1
        unfold m4; omega
    omega
  · have k : fw M = 1 + m4 (LI M.a M.b) (LI M.c M.d) (LI M.b M.a) (LI M.d M.c) := by unfold fw; rw [if_neg h]
    rw [k]
    unfold fw
    split
    · omega
    · show 1 + m4 _ (LI M.c M.d) _ (LI M.d M.c) ≤ _
      unfold m4; omega
theorem fw_lift1 (w : Int) {M : Mx} (hu : Uni M) : fw (M.lift1 w) ≤ fw M + 1 := by
  have hs : Uni M.swap := by unfold Uni at *; rw [det_swap]; omega
  have h := fw_lift0 w hs
  have e : (M.lift1 w) = (M.swap.lift0 w).swap := rfl
  rw [e, fw_swap]
  rw [fw_swap] at h
  exact h
/-- no way has fewer lifts -/
theorem fw_least {n : Nat} {M : Mx} (h : W n M) : fw M ≤ n := by
  induction h with
  | one => exact Nat.zero_le _
  | lift0 w h ih => have := fw_lift0 w h.uni; omega
  | lift1 w h ih => have := fw_lift1 w h.uni; omega
  | turn0 _ ih => rw [fw_turn0]; exact ih
  | turn1 _ ih => rw [fw_turn1]; exact ih
  | swap _ ih => rw [fw_swap]; exact ih
/-! the same from the right -/
def Mx.rlift0 (w : Int) (M : Mx) : Mx := ⟨M.a + w * M.b, M.b, M.c + w * M.d, M.d⟩
def Mx.rlift1 (w : Int) (M : Mx) : Mx := ⟨M.a, M.b + w * M.a, M.c, M.d + w * M.c⟩
def Mx.rturn0 (M : Mx) : Mx := ⟨-M.a, M.b, -M.c, M.d⟩
def Mx.rturn1 (M : Mx) : Mx := ⟨M.a, -M.b, M.c, -M.d⟩
def Mx.rswap (M : Mx) : Mx := ⟨M.b, M.a, M.d, M.c⟩
theorem mx_ext {M N : Mx} (h1 : M.a = N.a) (h2 : M.b = N.b) (h3 : M.c = N.c) (h4 : M.d = N.d) : M = N := by
  cases M; cases N; simp only at h1 h2 h3 h4; subst h1 h2 h3 h4; rfl
theorem W.cast {n : Nat} {M N : Mx} (h : W n M) (e : M = N) : W n N := e ▸ h
theorem W.rlift0 {n : Nat} {M : Mx} (w : Int) (h : W n M) : W (n + 1) (M.rlift0 w) := by
  induction h with
  | one => exact (W.lift1 w .one).cast (by unfold Mx.lift1 Mx.rlift0 Mx.one; simp)
  | lift0 v _ ih => exact (W.lift0 v ih).cast (mx_ext (by simp only [Mx.lift0, Mx.rlift0]; grind) rfl (by simp only [Mx.lift0, Mx.rlift0]) rfl)
  | lift1 v _ ih => exact (W.lift1 v ih).cast (mx_ext (by simp only [Mx.lift1, Mx.rlift0]) rfl (by simp only [Mx.lift1, Mx.rlift0]; grind) rfl)
  | turn0 _ ih => exact (W.turn0 ih).cast (mx_ext (by simp only [Mx.turn0, Mx.rlift0]; grind) rfl rfl rfl)
  | turn1 _ ih => exact (W.turn1 ih).cast (mx_ext rfl rfl (by simp only [Mx.turn1, Mx.rlift0]; grind) rfl)
  | swap _ ih => exact (W.swap ih).cast rfl
theorem W.rturn0 {n : Nat} {M : Mx} (h : W n M) : W n M.rturn0 := by
  induction h with
  | one => exact (W.turn0 .one).cast (by unfold Mx.turn0 Mx.rturn0 Mx.one; simp)
  | lift0 v _ ih => exact (W.lift0 v ih).cast (mx_ext (by simp only [Mx.lift0, Mx.rturn0]; grind) rfl rfl rfl)
  | lift1 v _ ih => exact (W.lift1 v ih).cast (mx_ext rfl rfl (by simp only [Mx.lift1, Mx.rturn0]; grind) rfl)
  | turn0 _ ih => exact (W.turn0 ih).cast rfl
  | turn1 _ ih => exact (W.turn1 ih).cast rfl
  | swap _ ih => exact (W.swap ih).cast rfl
theorem W.rswap {n : Nat} {M : Mx} (h : W n M) : W n M.rswap := by
  induction h with
  | one => exact (W.swap .one).cast rfl
  | lift0 v _ ih => exact (W.lift0 v ih).cast rfl
  | lift1 v _ ih => exact (W.lift1 v ih).cast rfl
  | turn0 _ ih => exact (W.turn0 ih).cast rfl
  | turn1 _ ih => exact (W.turn1 ih).cast rfl
  | swap _ ih => exact (W.swap ih).cast rfl
theorem W.rlift1 {n : Nat} {M : Mx} (w : Int) (h : W n M) : W (n + 1) (M.rlift1 w) := (h.rswap.rlift0 w).rswap.cast rfl
theorem W.rturn1 {n : Nat} {M : Mx} (h : W n M) : W n M.rturn1 := h.rswap.rturn0.rswap.cast rfl
theorem W.tr {n : Nat} {M : Mx} (h : W n M) : W n M.tr := by
  induction h with
  | one => exact W.one
  | lift0 v _ ih => exact (ih.rlift0 v).cast rfl
  | lift1 v _ ih => exact (ih.rlift1 v).cast rfl
  | turn0 _ ih => exact ih.rturn0.cast rfl
  | turn1 _ ih => exact ih.rturn1.cast rfl
  | swap _ ih => exact ih.rswap.cast rfl
/-! ### places and ways -/
abbrev P := Int × Int
def dt (x y : P) : Int := x.1 * y.2 - x.2 * y.1
def ng (x : P) : P := (-x.1, -x.2)
def flip (x : P) : P := (x.2, x.1)
def up (x : P) : Bool := decide (0 < x.2) || (decide (x.2 = 0) && decide (0 < x.1))
def placed (x : P) : P := if up x = true then x else (0 - x.1, 0 - x.2)
/-- alike but for the signs -/
def Lk (x y : P) : Prop := x = y ∨ x = ng y
theorem ng_ng (x : P) : ng (ng x) = x := by unfold ng; simp
theorem Lk.symm {x y : P} (h : Lk x y) : Lk y x := by
  rcases h with h | h
  · exact .inl h.symm
  · exact .inr (by rw [h, ng_ng])
theorem Lk.trans {x y z : P} (h : Lk x y) (k : Lk y z) : Lk x z := by
  rcases h with h | h
  · rw [h]; exact k
  · rcases k with k | k
    · rw [← k]; exact .inr h
    · rw [k, ng_ng] at h; exact .inl h
theorem placed_lk (x : P) : Lk (placed x) x := by
  unfold placed
  split
  · exact .inl rfl
  · exact .inr (by unfold ng; simp)
theorem up_ng {x : P} (h : x ≠ (0, 0)) : up (ng x) = !up x := by
  obtain ⟨a, b⟩ := x
  have h' : ¬ (a = 0 ∧ b = 0) := fun e => h (by rw [e.1, e.2])
  unfold up ng
  simp only
  rw [Bool.eq_iff_iff]
  simp
  omega
theorem placed_ng (x : P) : placed (ng x) = placed x := by
  by_cases h : x = (0, 0)
  · subst h; rfl
  · unfold placed
    rw [up_ng h]
    cases e : up x with
    | true => show (if false = true then _ else _) = x; simp [ng]
    | false => show (if true = true then _ else _) = _; simp [ng]
theorem placed_iff {x y : P} : placed x = placed y ↔ Lk x y := by
  constructor
  · intro h
    exact (placed_lk x).symm.trans (h ▸ placed_lk y)
  · rintro (h | h)
    · rw [h]
    · rw [h, placed_ng]
theorem placed_nn (x : P) : 0 ≤ (placed x).2 := by
  obtain ⟨a, b⟩ := x
  unfold placed up
  simp only
  split
  · next h => simp at h; show 0 ≤ b; omega
  · next h => simp at h; show 0 ≤ 0 - b; omega
/-- whole numbers near to a quotient -/
def nearest (top under : Int) : Int := top / under + (if decide (2 * (top % under) > under) = true then 1 else 0)
def wg : Nat → P → P → P → List P
  | 0, _, _, _ => []
  | n + 1, last, ahead, p => if p.2 = 0 then [] else
    (nearest p.1 p.2 * last.1 + ahead.1, nearest p.1 p.2 * last.2 + ahead.2) ::
      wg n (nearest p.1 p.2 * last.1 + ahead.1, nearest p.1 p.2 * last.2 + ahead.2) last (placed (p.2, p.1 - nearest p.1 p.2 * p.2))
def wayTo (p : P) : List P := (1, 0) :: wg (p.2.natAbs + 1) (1, 0) (0, 1) p
theorem nearest_rest {top under : Int} (h : 0 < under) : 2 * (top - nearest top under * under).natAbs ≤ under.natAbs := by
  have h1 := Int.mul_ediv_add_emod top under
  have h2 := Int.emod_nonneg top (show under ≠ 0 by omega)
  have h3 := Int.emod_lt_of_pos top h
  unfold nearest
  rw [Int.add_mul, Int.mul_comm (top / under)]
  generalize under * (top / under) = z at *
  generalize top % under = m at *
  split
  · next hd => rw [decide_eq_true_eq] at hd; rw [Int.one_mul]; omega
  · next hd => rw [decide_eq_true_eq] at hd; rw [Int.zero_mul]; omega
theorem LI_placed (x : P) : LI (placed x).1 (placed x).2 = LI x.1 x.2 := by
  rcases placed_lk x with h | h <;> rw [h]
  show LI (-x.1) (-x.2) = _
  rw [LI_neg1, LI_neg2]
theorem nearest_placed {p : P} (h0 : 0 ≤ p.2) (h1 : p.2 ≠ 0) : (placed (p.2, p.1 - nearest p.1 p.2 * p.2)).2.natAbs < p.2.natAbs := by
  have h2 := nearest_rest (top := p.1) (show 0 < p.2 by omega)
  have h3 : (placed (p.2, p.1 - nearest p.1 p.2 * p.2)).2.natAbs = (p.1 - nearest p.1 p.2 * p.2).natAbs := by
    rcases placed_lk (p.2, p.1 - nearest p.1 p.2 * p.2) with h | h <;> rw [h]
    exact Int.natAbs_neg _
  omega
theorem wg_len : ∀ (n : Nat) (last ahead p : P), 0 ≤ p.2 → p.2.natAbs < n → (wg n last ahead p).length = LI p.1 p.2
  | 0, _, _, _, _, h => absurd h (Nat.not_lt_zero _)
  | n + 1, last, ahead, p, h0, h => by
    unfold wg
    split
    · next h1 => rw [h1]; rfl
    · next h1 =>
      have h2 := nearest_placed h0 h1
      rw [List.length_cons, wg_len n _ _ _ (placed_nn _) (by omega), LI_placed]
      rw [LI_near (q := nearest p.1 p.2) (t := p.1 - nearest p.1 p.2 * p.2) (by omega) h1 (nearest_rest (by omega))]
      exact Nat.add_comm _ _
theorem wayTo_len {p : P} (h : 0 ≤ p.2) : (wayTo p).length = 1 + LI p.1 p.2 := by
  unfold wayTo
  rw [List.length_cons, wg_len _ _ _ _ h (Nat.lt_succ_self _), Nat.add_comm]
/-- each a neighbour of the one ahead of it -/
def Ch : P → List P → Prop
  | _, [] => True
  | x, y :: r => (dt x y = 1 ∨ dt x y = -1) ∧ Ch y r
def lastOf : P → List P → P
  | x, [] => x
  | _, y :: r => lastOf y r
theorem wg_chain : ∀ (n : Nat) (last ahead p : P), dt ahead last = 1 ∨ dt ahead last = -1 → Ch last (wg n last ahead p)
  | 0, _, _, _, _ => trivial
  | n + 1, last, ahead, p, h => by
    unfold wg
    split
    · trivial
    · have e : dt last (nearest p.1 p.2 * last.1 + ahead.1, nearest p.1 p.2 * last.2 + ahead.2) = -dt ahead last := by unfold dt; simp only; grind
      have e' : dt last (nearest p.1 p.2 * last.1 + ahead.1, nearest p.1 p.2 * last.2 + ahead.2) = 1 ∨ dt last (nearest p.1 p.2 * last.1 + ahead.1, nearest p.1 p.2 * last.2 + ahead.2) = -1 := by rw [e]; omega
      exact ⟨e', wg_chain n _ _ _ e'⟩
/-- what the way leads to -/
theorem wg_last : ∀ (n : Nat) (last ahead p g : P), 0 ≤ p.2 → p.2.natAbs < n → Lk g (p.1 * last.1 + p.2 * ahead.1, p.1 * last.2 + p.2 * ahead.2) →
    ∃ t : Int, Lk g (t * (lastOf last (wg n last ahead p)).1, t * (lastOf last (wg n last ahead p)).2)
  | 0, _, _, _, _, _, h, _ => absurd h (Nat.not_lt_zero _)
  | n + 1, last, ahead, p, g, h0, h, hg => by
    unfold wg
    split
    · next h1 =>
      refine ⟨p.1, ?_⟩
      show Lk g (p.1 * last.1, p.1 * last.2)
      rw [h1, Int.zero_mul, Int.zero_mul, Int.add_zero, Int.add_zero] at hg
      exact hg
    · next h1 =>
      have h2 := nearest_placed h0 h1
      refine wg_last n _ _ _ g (placed_nn _) (by omega) (hg.trans ?_)
      generalize nearest p.1 p.2 = q at *
      rcases placed_lk (p.2, p.1 - q * p.2) with e | e <;> rw [e]
      · refine .inl (Prod.ext ?_ ?_) <;> simp only <;> grind
      · refine .inr (Prod.ext ?_ ?_) <;> simp only [ng] <;> grind
theorem wayTo_last {p g : P} (h : 0 ≤ p.2) (hu : dt p g = 1 ∨ dt p g = -1) : Lk p (lastOf (1, 0) (wg (p.2.natAbs + 1) (1, 0) (0, 1) p)) := by
  obtain ⟨t, ht⟩ := wg_last (p.2.natAbs + 1) (1, 0) (0, 1) p p h (Nat.lt_succ_self _) (.inl (Prod.ext (by simp) (by simp)))
  generalize lastOf (1, 0) (wg (p.2.natAbs + 1) (1, 0) (0, 1) p) = z at *
  have h1 : t * dt z g = 1 ∨ t * dt z g = -1 := by
    rcases ht with e | e
    · rw [e] at hu; unfold dt at *; simp only at hu; grind
    · rw [e] at hu; unfold dt ng at *; simp only at hu; grind
  have h2 := (natAbs_one_of_mul h1).1
  rcases (show t = 1 ∨ t = -1 by omega) with e | e
  · subst e
    rw [Int.one_mul, Int.one_mul] at ht
    exact ht
  · subst e
    refine ht.trans ?_
    exact .inr (by unfold ng; simp)
/-! ### the least way -/
def unitP (g h : P) : Bool := (decide (placed g = (0, 1)) && decide (placed h = (1, 0))) || (decide (placed g = (1, 0)) && decide (placed h = (0, 1)))
def ways (g h : P) : List (List P) := [wayTo (placed g), wayTo (placed h), (wayTo (placed (flip (placed g)))).map flip, (wayTo (placed (flip (placed h)))).map flip]
def shortest (g h : P) : Nat := m4 (wayTo (placed g)).length (wayTo (placed h)).length (wayTo (placed (flip (placed g)))).length (wayTo (placed (flip (placed h)))).length
def leastWay (g h : P) : List P := if unitP g h = true then [] else ((ways g h).filter fun w => decide (w.length = shortest g h)).headD []
def mxOf (g h : P) : Mx := ⟨g.1, g.2, h.1, h.2⟩
theorem mxOf_det (g h : P) : (mxOf g h).det = dt g h := by unfold mxOf Mx.det dt; rfl
theorem placed_eq01 (g : P) : placed g = (0, 1) ↔ g.1 = 0 ∧ (g.2 = 1 ∨ g.2 = -1) := by
  rw [show ((0 : Int), (1 : Int)) = placed (0, 1) from rfl, placed_iff]
  unfold Lk ng
  obtain ⟨a, b⟩ := g
  simp [Prod.ext_iff]; omega
theorem placed_eq10 (g : P) : placed g = (1, 0) ↔ g.2 = 0 ∧ (g.1 = 1 ∨ g.1 = -1) := by
  rw [show ((1 : Int), (0 : Int)) = placed (1, 0) from rfl, placed_iff]
  unfold Lk ng
  obtain ⟨a, b⟩ := g
  simp [Prod.ext_iff]; omega
theorem unitP_eq {g h : P} (hu : dt g h = 1 ∨ dt g h = -1) : unitP g h = unit (mxOf g h) := by
  rw [Bool.eq_iff_iff, unit_iff]
  unfold unitP
  simp only [Bool.or_eq_true, Bool.and_eq_true, decide_eq_true_eq, placed_eq01, placed_eq10]
  unfold mxOf
  simp only
  unfold dt at hu
  constructor
  · rintro (⟨⟨h1, h2⟩, h3, h4⟩ | ⟨⟨h1, h2⟩, h3, h4⟩)
    · exact .inr ⟨h1, h3⟩
    · exact .inl ⟨h1, h3⟩
  · rintro (⟨h1, h2⟩ | ⟨h1, h2⟩)
    · rw [h1, Int.zero_mul, Int.sub_zero] at hu
      have := natAbs_one_of_mul hu
      exact .inr ⟨⟨h1, by omega⟩, h2, by omega⟩
    · rw [h1, Int.zero_mul, Int.zero_sub] at hu
      have := natAbs_one_of_mul (show g.2 * h.1 = 1 ∨ g.2 * h.1 = -1 by omega)
      exact .inl ⟨⟨h1, by omega⟩, h2, by omega⟩
theorem len_way (g : P) : (wayTo (placed g)).length = 1 + LI g.1 g.2 := by rw [wayTo_len (placed_nn g), LI_placed]
theorem len_back (g : P) : (wayTo (placed (flip (placed g)))).length = 1 + LI g.2 g.1 := by
  rw [len_way]
  show 1 + LI (placed g).2 (placed g).1 = _
  rcases placed_lk g with h | h <;> rw [h]
  show 1 + LI (-g.2) (-g.1) = _
  rw [LI_neg1, LI_neg2]
theorem m4_succ (w x y z : Nat) : m4 (1 + w) (1 + x) (1 + y) (1 + z) = 1 + m4 w x y z := by unfold m4; omega
theorem shortest_eq (g h : P) : shortest g h = 1 + m4 (LI g.1 g.2) (LI h.1 h.2) (LI g.2 g.1) (LI h.2 h.1) := by
  unfold shortest; rw [len_way, len_way, len_back, len_back, m4_succ]
theorem mem_filter_head {α : Type} {p : α → Bool} {d : α} : ∀ {l : List α}, (∃ x ∈ l, p x = true) → (l.filter p).headD d ∈ l ∧ p ((l.filter p).headD d) = true
  | [], h => by obtain ⟨x, hx, _⟩ := h; cases hx
  | y :: l, h => by
    by_cases hy : p y = true
    · rw [List.filter_cons_of_pos hy]
      exact ⟨List.mem_cons_self, hy⟩
    · rw [List.filter_cons_of_neg hy]
      obtain ⟨x, hx, px⟩ := h
      have := mem_filter_head (d := d) (l := l) ⟨x, by
        rcases List.mem_cons.mp hx with e | e
        · subst e; exact absurd px hy
        · exact e, px⟩
      exact ⟨List.mem_cons_of_mem _ this.1, this.2⟩
theorem leastWay_mem {g h : P} (hn : unitP g h = false) : leastWay g h ∈ ways g h ∧ (leastWay g h).length = shortest g h := by
  have e : leastWay g h = ((ways g h).filter fun w => decide (w.length = shortest g h)).headD [] := by
    unfold leastWay; rw [hn]; rfl
  have k : ∃ x ∈ ways g h, decide (x.length = shortest g h) = true := by
    have : (wayTo (placed g)).length = shortest g h ∨ (wayTo (placed h)).length = shortest g h ∨ ((wayTo (placed (flip (placed g)))).map flip).length = shortest g h ∨ ((wayTo (placed (flip (placed h)))).map flip).length = shortest g h := by
      rw [List.length_map, List.length_map]
      unfold shortest m4; omega
    unfold ways
    rcases this with t | t | t | t
    · exact ⟨_, by simp, decide_eq_true t⟩
    · exact ⟨wayTo (placed h), by simp, decide_eq_true t⟩
    · exact ⟨(wayTo (placed (flip (placed g)))).map flip, by simp, decide_eq_true t⟩
    · exact ⟨(wayTo (placed (flip (placed h)))).map flip, by simp, decide_eq_true t⟩
  have m := mem_filter_head (d := []) k
  rw [← e] at m
  exact ⟨m.1, of_decide_eq_true m.2⟩
theorem leastWay_len {g h : P} (hu : dt g h = 1 ∨ dt g h = -1) : (leastWay g h).length = fw (mxOf g h) := by
  unfold fw
  rw [← unitP_eq hu]
  cases e : unitP g h with
  | true => unfold leastWay; rw [e]; rfl
  | false => rw [(leastWay_mem e).2, shortest_eq]; rfl
/-- a way that starts at the ways themselves, by neighbours, and leads to g -/
def Leads (g : P) (w : List P) : Prop := ∃ x r, w = x :: r ∧ (x = (1, 0) ∨ x = (0, 1)) ∧ Ch x r ∧ Lk g (lastOf x r)
theorem leads_way {g q : P} (hu : dt g q = 1 ∨ dt g q = -1) : Leads g (wayTo (placed g)) := by
  refine ⟨(1, 0), _, rfl, .inl rfl, wg_chain _ _ _ _ (.inr rfl), ?_⟩
  have h1 : dt (placed g) q = 1 ∨ dt (placed g) q = -1 := by
    rcases placed_lk g with e | e <;> rw [e]
    · exact hu
    · unfold dt ng at *; simp only; grind
  exact (placed_lk g).symm.trans (wayTo_last (placed_nn g) h1)
theorem dt_flip (x y : P) : dt (flip x) (flip y) = -dt x y := by unfold dt flip; simp only; grind
theorem ch_flip : ∀ (r : List P) (x : P), Ch x r → Ch (flip x) (r.map flip)
  | [], _, _ => trivial
  | y :: r, x, h => ⟨by rw [dt_flip]; have := h.1; omega, ch_flip r y h.2⟩
theorem last_flip : ∀ (r : List P) (x : P), lastOf (flip x) (r.map flip) = flip (lastOf x r)
  | [], _ => rfl
  | y :: r, _ => last_flip r y
theorem lk_flip {x y : P} (h : Lk x y) : Lk (flip x) (flip y) := by
  rcases h with h | h
  · exact .inl (by rw [h])
  · exact .inr (by rw [h]; rfl)
theorem leads_back {g q : P} (hu : dt g q = 1 ∨ dt g q = -1) : Leads g ((wayTo (placed (flip (placed g)))).map flip) := by
  have h1 : dt (flip (placed g)) (flip q) = 1 ∨ dt (flip (placed g)) (flip q) = -1 := by
    rw [dt_flip]
    rcases placed_lk g with e | e <;> rw [e]
    · omega
    · unfold dt ng at *; simp only; grind
  obtain ⟨x, r, e, hx, hc, hl⟩ := leads_way h1
  rw [e]
  refine ⟨flip x, r.map flip, rfl, ?_, ch_flip r x hc, ?_⟩
  · rcases hx with hx | hx <;> subst hx
    · exact .inr rfl
    · exact .inl rfl
  · rw [last_flip]
    exact (placed_lk g).symm.trans (lk_flip hl)
theorem dt_swap (x y : P) : dt y x = -dt x y := by unfold dt; grind
theorem leastWay_leads {g h : P} (hu : dt g h = 1 ∨ dt g h = -1) (hn : unitP g h = false) : Leads g (leastWay g h) ∨ Leads h (leastWay g h) := by
  have hv : dt h g = 1 ∨ dt h g = -1 := by rw [dt_swap]; omega
  have m := (leastWay_mem hn).1
  unfold ways at m
  simp only [List.mem_cons, List.not_mem_nil, or_false] at m
  rcases m with m | m | m | m <;> rw [m]
  · exact .inl (leads_way hu)
  · exact .inr (leads_way hv)
  · exact .inl (leads_back hu)
  · exact .inr (leads_back hv)
/-! ### the lifts -/
inductive Stp where
  | lf (to : Bool) (w : Int)
  | tn (at_ : Bool)
  | sw
def Stp.run : Stp → Mx → Mx
  | .lf true w, M => M.lift1 w
  | .lf false w, M => M.lift0 w
  | .tn true, M => M.turn1
  | .tn false, M => M.turn0
  | .sw, M => M.swap
def Stp.isLift : Stp → Bool
  | .lf _ _ => true
  | _ => false
def runs (ss : List Stp) (M : Mx) : Mx := ss.foldl (fun M s => s.run M) M
def lifts (ss : List Stp) : Nat := (ss.filter Stp.isLift).length
theorem runs_append (s t : List Stp) (M : Mx) : runs (s ++ t) M = runs t (runs s M) := by unfold runs; rw [List.foldl_append]
theorem lifts_append (s t : List Stp) : lifts (s ++ t) = lifts s + lifts t := by unfold lifts; rw [List.filter_append, List.length_append]
theorem W.runs : ∀ (ss : List Stp) {n : Nat} {M : Mx}, W n M → W (n + lifts ss) (WS.runs ss M)
  | [], _, _, h => h
  | .lf true w :: ss, n, M, h => by
    have := W.runs ss (W.lift1 w h)
    rw [show n + lifts (.lf true w :: ss) = n + 1 + lifts ss by show n + (lifts ss + 1) = _; omega]
    exact this
  | .lf false w :: ss, n, M, h => by
    have := W.runs ss (W.lift0 w h)
    rw [show n + lifts (.lf false w :: ss) = n + 1 + lifts ss by show n + (lifts ss + 1) = _; omega]
    exact this
  | .tn true :: ss, _, _, h => W.runs ss (W.turn1 h)
  | .tn false :: ss, _, _, h => W.runs ss (W.turn0 h)
  | .sw :: ss, _, _, h => W.runs ss (W.swap h)
/-- the sign and the weight by which gone becomes goal -/
def signOf (kept gone goal : P) : Int := dt kept goal * dt kept gone
def weightOf (kept gone goal : P) : Int := signOf kept gone goal * dt goal gone * dt kept gone
def isAt (l1 p : P) : Bool := decide (placed l1 = placed p)
/-- one lift, and perhaps a turn -/
def two (here : Bool) (kept gone goal : P) : List Stp := .lf (!here) (weightOf kept gone goal) :: (if signOf kept gone goal < 0 then [.tn (!here)] else [])
def oneL (p goal l0 l1 : P) : List Stp := if isAt l1 p = true then two true l1 l0 goal else two false l0 l1 goal
def go : List P → P → P → P → List Stp × P × P
  | [], _, l0, l1 => ([], l0, l1)
  | p :: r, fin, l0, l1 =>
    let goal := r.headD fin
    let l0' := if isAt l1 p = true then goal else l0
    let l1' := if isAt l1 p = true then l1 else goal
    (oneL p goal l0 l1 ++ (go r fin l0' l1').1, (go r fin l0' l1').2)
theorem two_true {l1 l0 goal : P} (h : dt l1 l0 = 1 ∨ dt l1 l0 = -1) (h2 : dt l1 goal = 1 ∨ dt l1 goal = -1) : runs (two true l1 l0 goal) (mxOf l0 l1) = mxOf goal l1 := by
  have hs : signOf l1 l0 goal = 1 ∨ signOf l1 l0 goal = -1 := by
    unfold signOf; rcases h with h | h <;> rcases h2 with h2 | h2 <;> rw [h, h2] <;> simp
  have e1 : l0.1 + weightOf l1 l0 goal * l1.1 = signOf l1 l0 goal * goal.1 := by
    unfold weightOf signOf
    rcases h with h | h <;> rcases h2 with h2 | h2 <;> rw [h, h2] <;> unfold dt at * <;> grind
  have e2 : l0.2 + weightOf l1 l0 goal * l1.2 = signOf l1 l0 goal * goal.2 := by
    unfold weightOf signOf
    rcases h with h | h <;> rcases h2 with h2 | h2 <;> rw [h, h2] <;> unfold dt at * <;> grind
  unfold two
  have m : (mxOf l0 l1).lift0 (weightOf l1 l0 goal) = ⟨signOf l1 l0 goal * goal.1, signOf l1 l0 goal * goal.2, l1.1, l1.2⟩ := by
    unfold Mx.lift0 mxOf; simp only; rw [e1, e2]
  rcases hs with hs | hs
  · rw [if_neg (by omega)]
    show (mxOf l0 l1).lift0 (weightOf l1 l0 goal) = _
    rw [m, hs, Int.one_mul, Int.one_mul]; rfl
  · rw [if_pos (by omega)]
    show ((mxOf l0 l1).lift0 (weightOf l1 l0 goal)).turn0 = _
    rw [m, hs]; unfold Mx.turn0 mxOf; simp
theorem two_false {l0 l1 goal : P} (h : dt l0 l1 = 1 ∨ dt l0 l1 = -1) (h2 : dt l0 goal = 1 ∨ dt l0 goal = -1) : runs (two false l0 l1 goal) (mxOf l0 l1) = mxOf l0 goal := by
  have hs : signOf l0 l1 goal = 1 ∨ signOf l0 l1 goal = -1 := by
    unfold signOf; rcases h with h | h <;> rcases h2 with h2 | h2 <;> rw [h, h2] <;> simp
  have e1 : l1.1 + weightOf l0 l1 goal * l0.1 = signOf l0 l1 goal * goal.1 := by
    unfold weightOf signOf
    rcases h with h | h <;> rcases h2 with h2 | h2 <;> rw [h, h2] <;> unfold dt at * <;> grind
  have e2 : l1.2 + weightOf l0 l1 goal * l0.2 = signOf l0 l1 goal * goal.2 := by
    unfold weightOf signOf
    rcases h with h | h <;> rcases h2 with h2 | h2 <;> rw [h, h2] <;> unfold dt at * <;> grind
  unfold two
  have m : (mxOf l0 l1).lift1 (weightOf l0 l1 goal) = ⟨l0.1, l0.2, signOf l0 l1 goal * goal.1, signOf l0 l1 goal * goal.2⟩ := by
    unfold Mx.lift1 mxOf; simp only; rw [e1, e2]
  rcases hs with hs | hs
  · rw [if_neg (by omega)]
    show (mxOf l0 l1).lift1 (weightOf l0 l1 goal) = _
    rw [m, hs, Int.one_mul, Int.one_mul]; rfl
  · rw [if_pos (by omega)]
    show ((mxOf l0 l1).lift1 (weightOf l0 l1 goal)).turn1 = _
    rw [m, hs]; unfold Mx.turn1 mxOf; simp
theorem lifts_two (here : Bool) (kept gone goal : P) : lifts (two here kept gone goal) = 1 := by
  unfold two; split <;> rfl
theorem lifts_oneL (p goal l0 l1 : P) : lifts (oneL p goal l0 l1) = 1 := by
  unfold oneL; split <;> exact lifts_two _ _ _ _
theorem dt_lk {x y z : P} (h : Lk x y) (hd : dt x z = 1 ∨ dt x z = -1) : dt y z = 1 ∨ dt y z = -1 := by
  rcases h.symm with e | e <;> rw [e]
  · exact hd
  · unfold dt ng at *; simp only; grind
theorem dt_self_lk {x y : P} (h : Lk x y) : dt x y = 0 := by
  rcases h with e | e
  · rw [e]; unfold dt; grind
  · rw [e]; unfold dt ng; grind
theorem isAt_iff (x y : P) : isAt x y = true ↔ Lk x y := by unfold isAt; rw [decide_eq_true_eq, placed_iff]
/-- the loop -/
theorem go_ok : ∀ (r : List P) (p fin l0 l1 : P), dt l0 l1 = 1 ∨ dt l0 l1 = -1 → Lk l0 p ∨ Lk l1 p → Ch p r → (dt (lastOf p r) fin = 1 ∨ dt (lastOf p r) fin = -1) →
    runs (go (p :: r) fin l0 l1).1 (mxOf l0 l1) = mxOf (go (p :: r) fin l0 l1).2.1 (go (p :: r) fin l0 l1).2.2 ∧ lifts (go (p :: r) fin l0 l1).1 = r.length + 1 ∧
      (dt (go (p :: r) fin l0 l1).2.1 (go (p :: r) fin l0 l1).2.2 = 1 ∨ dt (go (p :: r) fin l0 l1).2.1 (go (p :: r) fin l0 l1).2.2 = -1) ∧
      (((go (p :: r) fin l0 l1).2.1 = fin ∧ Lk (go (p :: r) fin l0 l1).2.2 (lastOf p r)) ∨ ((go (p :: r) fin l0 l1).2.2 = fin ∧ Lk (go (p :: r) fin l0 l1).2.1 (lastOf p r))) := by
  intro r
  induction r with
  | nil =>
    intro p fin l0 l1 hd hp hc hf
    have hf : dt p fin = 1 ∨ dt p fin = -1 := hf
    show runs (oneL p fin l0 l1 ++ []) _ = mxOf (if isAt l1 p = true then fin else l0) (if isAt l1 p = true then l1 else fin) ∧ lifts (oneL p fin l0 l1 ++ []) = 1 ∧ _
    rw [List.append_nil]
    refine ⟨?_, lifts_oneL _ _ _ _, ?_⟩
    · unfold oneL
      by_cases h : isAt l1 p = true
      · rw [if_pos h, if_pos h, if_pos h]
        exact two_true (by rw [dt_swap]; omega) (dt_lk ((isAt_iff _ _).mp h).symm hf)
      · rw [if_neg h, if_neg h, if_neg h]
        have h1 : Lk l0 p := hp.resolve_right fun k => h ((isAt_iff _ _).mpr k)
        exact two_false hd (dt_lk h1.symm hf)
    · show (dt (if isAt l1 p = true then fin else l0) (if isAt l1 p = true then l1 else fin) = 1 ∨ dt (if isAt l1 p = true then fin else l0) (if isAt l1 p = true then l1 else fin) = -1) ∧ (((if isAt l1 p = true then fin else l0) = fin ∧ Lk (if isAt l1 p = true then l1 else fin) p) ∨ ((if isAt l1 p = true then l1 else fin) = fin ∧ Lk (if isAt l1 p = true then fin else l0) p))
      by_cases h : isAt l1 p = true
      · rw [if_pos h, if_pos h]
        have k := (isAt_iff _ _).mp h
        have := dt_lk k.symm hf
        rw [dt_swap] 
        exact ⟨by omega, .inl ⟨rfl, k⟩⟩
      · rw [if_neg h, if_neg h]
        have h1 : Lk l0 p := hp.resolve_right fun k => h ((isAt_iff _ _).mpr k)
        exact ⟨dt_lk h1.symm hf, .inr ⟨rfl, h1⟩⟩
  | cons q r ih =>
    intro p fin l0 l1 hd hp hc hf
    obtain ⟨hq, hc⟩ := hc
    have key : ∀ l0' l1' : P, l0' = (if isAt l1 p = true then q else l0) → l1' = (if isAt l1 p = true then l1 else q) → runs (oneL p q l0 l1) (mxOf l0 l1) = mxOf l0' l1' ∧ (dt l0' l1' = 1 ∨ dt l0' l1' = -1) ∧ (Lk l0' q ∨ Lk l1' q) := by
      intro l0' l1' e0 e1
      subst e0 e1
      unfold oneL
      by_cases h : isAt l1 p = true
      · rw [if_pos h, if_pos h, if_pos h]
        have k := dt_lk ((isAt_iff _ _).mp h).symm hq
        exact ⟨two_true (by rw [dt_swap]; omega) k, by rw [dt_swap]; omega, .inl (.inl rfl)⟩
      · rw [if_neg h, if_neg h, if_neg h]
        have h1 : Lk l0 p := hp.resolve_right fun k => h ((isAt_iff _ _).mpr k)
        exact ⟨two_false hd (dt_lk h1.symm hq), dt_lk h1.symm hq, .inr (.inl rfl)⟩
    obtain ⟨k1, k2, k3⟩ := key _ _ rfl rfl
    obtain ⟨i1, i2, i3, i4⟩ := ih q fin _ _ k2 k3 hc hf
    have e : go (p :: q :: r) fin l0 l1 = (oneL p q l0 l1 ++ (go (q :: r) fin (if isAt l1 p = true then q else l0) (if isAt l1 p = true then l1 else q)).1, (go (q :: r) fin (if isAt l1 p = true then q else l0) (if isAt l1 p = true then l1 else q)).2) := rfl
    rw [e]
    refine ⟨?_, ?_, i3, i4⟩
    · simp only
      rw [runs_append, k1]; exact i1
    · simp only
      rw [lifts_append, lifts_oneL, i2, List.length_cons]; omega
/-- the row to which the last lift leads -/
def finOf (g h : P) (p : P) : P := if isAt g p = true then h else g
def endTurns (g h l0 l1 : P) : List Stp := (if l0 = g then [] else [.tn false]) ++ (if l1 = h then [] else [.tn true])
def endSteps (g h l0 l1 : P) : List Stp := if placed l0 = placed g then endTurns g h l0 l1 else .sw :: endTurns g h l1 l0
def liftsFor (g h : P) : List Stp :=
  let w := leastWay g h
  let fin := finOf g h (lastOf (0, 0) w)
  (go w fin (1, 0) (0, 1)).1 ++ endSteps g h (go w fin (1, 0) (0, 1)).2.1 (go w fin (1, 0) (0, 1)).2.2
theorem endTurns_ok {g h l0 l1 : P} (h0 : Lk l0 g) (h1 : Lk l1 h) : runs (endTurns g h l0 l1) (mxOf l0 l1) = mxOf g h := by
  unfold endTurns
  by_cases e0 : l0 = g <;> by_cases e1 : l1 = h
  · rw [if_pos e0, if_pos e1, e0, e1]; rfl
  · rw [if_pos e0, if_neg e1, e0, h1.resolve_left e1]
    show (mxOf g (ng h)).turn1 = _
    unfold mxOf ng Mx.turn1; simp
  · rw [if_neg e0, if_pos e1, e1, h0.resolve_left e0]
    show (mxOf (ng g) h).turn0 = _
    unfold mxOf ng Mx.turn0; simp
  · rw [if_neg e0, if_neg e1, h0.resolve_left e0, h1.resolve_left e1]
    show ((mxOf (ng g) (ng h)).turn0).turn1 = _
    unfold mxOf ng Mx.turn0 Mx.turn1; simp
theorem lifts_endTurns (g h l0 l1 : P) : lifts (endTurns g h l0 l1) = 0 := by unfold endTurns; split <;> split <;> rfl
theorem lifts_endSteps (g h l0 l1 : P) : lifts (endSteps g h l0 l1) = 0 := by
  unfold endSteps
  split
  · exact lifts_endTurns _ _ _ _
  · show lifts (endTurns g h l1 l0) = 0
    exact lifts_endTurns _ _ _ _
theorem endSteps_ok {g h l0 l1 : P} (hu : dt g h = 1 ∨ dt g h = -1) (k : (Lk l0 g ∧ Lk l1 h) ∨ (Lk l0 h ∧ Lk l1 g)) : runs (endSteps g h l0 l1) (mxOf l0 l1) = mxOf g h := by
  have no : ¬ Lk g h := fun e => by have := dt_self_lk e; omega
  unfold endSteps
  rcases k with ⟨k0, k1⟩ | ⟨k0, k1⟩
  · rw [if_pos (placed_iff.mpr k0)]; exact endTurns_ok k0 k1
  · rw [if_neg (fun e => no ((placed_iff.mp e).symm.trans k0))]
    show runs (endTurns g h l1 l0) ((mxOf l0 l1).swap) = _
    exact endTurns_ok k1 k0
theorem lastOf_eq (d x : P) (r : List P) : lastOf d (x :: r) = lastOf x r := rfl
theorem liftsFor_ok {g h : P} (hu : dt g h = 1 ∨ dt g h = -1) : runs (liftsFor g h) Mx.one = mxOf g h ∧ lifts (liftsFor g h) = fw (mxOf g h) := by
  have no : ¬ Lk g h := fun e => by have := dt_self_lk e; omega
  have hlen := leastWay_len hu
  unfold liftsFor
  simp only
  rw [runs_append, lifts_append, lifts_endSteps, Nat.add_zero]
  cases e : unitP g h with
  | true =>
    have ew : leastWay g h = [] := by unfold leastWay; rw [e]; rfl
    rw [ew] at hlen ⊢
    refine ⟨?_, hlen⟩
    refine endSteps_ok (l0 := (1, 0)) (l1 := (0, 1)) hu ?_
    unfold unitP at e
    simp only [Bool.or_eq_true, Bool.and_eq_true, decide_eq_true_eq] at e
    rcases e with ⟨e1, e2⟩ | ⟨e1, e2⟩
    · exact .inr ⟨placed_iff.mp (by rw [e2]; rfl), placed_iff.mp (by rw [e1]; rfl)⟩
    · exact .inl ⟨placed_iff.mp (by rw [e1]; rfl), placed_iff.mp (by rw [e2]; rfl)⟩
  | false =>
    have hl : ∃ x r, leastWay g h = x :: r ∧ (x = (1, 0) ∨ x = (0, 1)) ∧ Ch x r ∧ (Lk g (lastOf x r) ∨ Lk h (lastOf x r)) := by
      rcases leastWay_leads hu e with ⟨x, r, a, b, c, d⟩ | ⟨x, r, a, b, c, d⟩
      · exact ⟨x, r, a, b, c, .inl d⟩
      · exact ⟨x, r, a, b, c, .inr d⟩
    obtain ⟨x, r, ew, hx, hc, hl⟩ := hl
    rw [ew] at hlen ⊢
    rw [lastOf_eq]
    have hf : (dt (lastOf x r) (finOf g h (lastOf x r)) = 1 ∨ dt (lastOf x r) (finOf g h (lastOf x r)) = -1) ∧ ((Lk g (lastOf x r) ∧ finOf g h (lastOf x r) = h) ∨ (Lk h (lastOf x r) ∧ finOf g h (lastOf x r) = g)) := by
      unfold finOf
      by_cases k : isAt g (lastOf x r) = true
      · rw [if_pos k]
        have k' := (isAt_iff _ _).mp k
        exact ⟨dt_lk k' hu, .inl ⟨k', rfl⟩⟩
      · rw [if_neg k]
        have k' : Lk h (lastOf x r) := hl.resolve_left fun z => k ((isAt_iff _ _).mpr z)
        exact ⟨dt_lk k' (by rw [dt_swap]; omega), .inr ⟨k', rfl⟩⟩
    obtain ⟨o1, o2, o3, o4⟩ := go_ok r x (finOf g h (lastOf x r)) (1, 0) (0, 1) (.inl rfl) (by
      rcases hx with hx | hx <;> subst hx
      · exact .inl (.inl rfl)
      · exact .inr (.inl rfl)) hc hf.1
    rw [show Mx.one = mxOf (1, 0) (0, 1) from rfl, o1]
    refine ⟨endSteps_ok hu ?_, by rw [o2, ← hlen, List.length_cons]⟩
    rcases hf.2 with ⟨f1, f2⟩ | ⟨f1, f2⟩ <;> rcases o4 with ⟨p1, p2⟩ | ⟨p1, p2⟩
    · exact .inr ⟨.inl (p1.trans f2), p2.trans f1.symm⟩
    · exact .inl ⟨p2.trans f1.symm, .inl (p1.trans f2)⟩
    · exact .inl ⟨.inl (p1.trans f2), p2.trans f1.symm⟩
    · exact .inr ⟨p2.trans f1.symm, .inl (p1.trans f2)⟩
theorem W_fw (M : Mx) (hu : Uni M) : W (fw M) M := by
  obtain ⟨a, b, c, d⟩ := M
  obtain ⟨h1, h2⟩ := liftsFor_ok (g := (a, b)) (h := (c, d)) hu
  have := W.runs (liftsFor (a, b) (c, d)) W.one
  rw [h1, h2, Nat.zero_add] at this
  exact this
theorem fw_tr {M : Mx} (hu : Uni M) : fw M.tr = fw M := by
  have h1 := fw_least (W_fw M hu).tr
  have hv : Uni M.tr := by unfold Uni at *; rw [det_tr]; exact hu
  have h2 : fw M ≤ fw M.tr := fw_least ((W_fw M.tr hv).tr.cast rfl)
  omega
theorem fw_rturn1 (M : Mx) : fw M.rturn1 = fw M := by
  have h : unit M.rturn1 = unit M := unit_congr (by unfold Mx.rturn1; simp)
  unfold fw; rw [h]; unfold Mx.rturn1; simp only [LI_neg1, LI_neg2]
theorem fw_rturn0 (M : Mx) : fw M.rturn0 = fw M := by
  have h : unit M.rturn0 = unit M := unit_congr (by unfold Mx.rturn0; simp)
  unfold fw; rw [h]; unfold Mx.rturn0; simp only [LI_neg1, LI_neg2]
theorem fw_rswap (M : Mx) : fw M.rswap = fw M := by
  have h : unit M.rswap = unit M := unit_congr (by unfold Mx.rswap; simp only; omega)
  unfold fw; rw [h]; unfold Mx.rswap; simp only [m4_flip (LI M.a M.b) (LI M.c M.d)]
/-- what undoes a matrix -/
def Mx.inv (M : Mx) : Mx := ⟨M.d * M.det, 0 - M.b * M.det, 0 - M.c * M.det, M.a * M.det⟩
theorem fw_inv {M : Mx} (hu : Uni M) : fw M.inv = fw M := by
  have key : fw M.tr.swap.rswap = fw M := by rw [fw_rswap, fw_swap, fw_tr hu]
  rcases hu with h | h
  · have e : M.inv = M.tr.swap.rswap.rturn1.turn1 := by
      unfold Mx.inv; rw [h]; unfold Mx.tr Mx.swap Mx.rswap Mx.rturn1 Mx.turn1; simp
    rw [e, fw_turn1, fw_rturn1, key]
  · have e : M.inv = M.tr.swap.rswap.rturn0.turn1 := by
      unfold Mx.inv; rw [h]; unfold Mx.tr Mx.swap Mx.rswap Mx.rturn0 Mx.turn1; simp
    rw [e, fw_turn1, fw_rturn0, key]
end WS
namespace WS
open PySem PySem.Spec PyProof.Rows L2
local macro_rules | `(tactic| walk_at "num") => `(tactic| first | assumption | exact mulW (by assumption) (by assumption) (by decide))
local macro_rules | `(tactic| walk_at "de") => `(tactic| first
  | exact de_int | exact de_str | exact de_bl | exact de_non | exact de_var rfl | exact da_nil | exact do_none | assumption
  | ((with_reducible apply da_cons) <;> walk_at "de")
  | ((with_reducible apply de_tup) <;> first | walk_at "de" | (simp; done))
  | ((with_reducible apply de_op) <;> walk_at "de")
  | ((with_reducible show DE _ _ (tCB (rIsi _) (tCons _ (tCons (tC (.ty "int")) tNil))) _ _); apply isi_int; walk_at "de")
  | ((with_reducible show DE _ _ (tCB (rIsi _) (tCons _ (tCons (tC (.ty "bool")) tNil))) _ _); apply isi_bool; walk_at "de")
  | ((with_reducible show DE _ _ (tCB (rIsi _) (tCons _ (tCons (tC (.ty "list")) tNil))) _ _); apply isi_list; walk_at "de")
  | ((with_reducible show DE _ _ (tCB (rIsi _) (tCons _ (tCons (tC (.ty "tuple")) tNil))) _ _); apply isi_tup; walk_at "de")
  | ((with_reducible apply de_cb) <;> walk_at "de")
  | ((with_reducible apply de_neg) <;> walk_at "de")
  | ((with_reducible apply dt_test) <;> walk_at "de")
  | ((with_reducible apply dt_B) <;> walk_at "de")
  | ((with_reducible apply dt_not) <;> walk_at "de")
  | ((with_reducible apply de_notV) <;> walk_at "de")
  | ((with_reducible apply do_some) <;> walk_at "de")
  | exact ca_lenL | exact ca_lenT | exact ca_abs | exact ca_intI | exact ca_intB | exact ca_min2
  | exact od_i0 | exact od_b0
  | exact od_ixL rfl | exact od_ixT rfl
  | exact od_ixP0 (by assumption) | exact od_ixP1 (by assumption)
  | (refine od_i ?_; walk_at "num"))

theorem int_lt_lex (a b : Int) (r t : List (Int ⊕ List Nat)) : PyProof.Rows.lexLt itemOrd (.inl a :: r) (.inl b :: t) = (decide (a < b) || (!decide (b < a) && PyProof.Rows.lexLt itemOrd r t)) := lex_cons (O := itemOrd) (.inl a) (.inl b) r t
theorem lex_nil0 : PyProof.Rows.lexLt itemOrd ([] : List (Int ⊕ List Nat)) ([] : List (Int ⊕ List Nat)) = false := rfl
theorem dataLt_pair (a b c d : Int) : PySem.W.dataLt (.tuple [.int a, .int b]) (.tuple [.int c, .int d]) = (decide (a < c) || (decide (a = c) && decide (b < d))) := by
  unfold PySem.W.dataLt
  simp only [PySem.W.keyToks, PySem.W.keyToksAll, List.cons_append, List.nil_append]
  rw [int_lt_lex, int_lt_lex, int_lt_lex, int_lt_lex, int_lt_lex, lex_nil0]
  rw [Bool.eq_iff_iff]
  simp
  omega
theorem dataLt_pairL (a b c d : Int) : PySem.W.dataLt (.list [.int a, .int b]) (.list [.int c, .int d]) = (decide (a < c) || (decide (a = c) && decide (b < d))) := by
  unfold PySem.W.dataLt
  simp only [PySem.W.keyToks, PySem.W.keyToksAll, List.cons_append, List.nil_append]
  rw [int_lt_lex, int_lt_lex, int_lt_lex, int_lt_lex, int_lt_lex, lex_nil0]
  rw [Bool.eq_iff_iff]
  simp
  omega
section
variable {P : Program} {w : World} {K : PySem.W.Frag} {mg : Str → Option Value} {base : Heap} {f : Addr} {fd : FuncData}
abbrev s_placed : Stmt := topS 30
abbrev n_placed : List Str := ["row"]
theorem sc_placed : FnScope n_placed ["row"] (defScope s_placed) := ⟨rfl, rfl, rfl, by decide +kernel, rfl, by decide +kernel, by decide +kernel⟩
def pre_placed (ds : List D) (r : D) : Prop := ∃ d x, ds = [d] ∧ IsP d x ∧ r = pT (placed x)
theorem ok_placed (T : Bt mg) (F : Fun K "placed" "placed" s_placed f fd) : FnOk P w K mg base CX0 1 f fd ["row"] (spD K pre_placed) := by
  refine fn_ok F sc_placed (n := 0) rfl (fun ds r h => ?_) (fun cdv A outer s H vs Q E B ds r hr hp E0 q => ?_)
  · obtain ⟨_, _, rfl, _⟩ := h; rfl
  obtain ⟨d, x, rfl, h1, rfl⟩ := hp
  refine ⟨_, (pss_one (ps_ret (pe_ifExp (pt_cmpR (k_gt K rfl hr.units) (pe_tup (pa_cons (pe_ix (k_ix K rfl) (pv 0) pe_int (fun _ _ => rfl)) (pa_cons (pe_ix (k_ix K rfl) (pv 0) pe_int (fun _ _ => rfl)) pa_nil))) (pe_tup (pa_cons pe_int (pa_cons pe_int pa_nil))) (nomark _)) (pe_tup (pa_cons (pe_ix (k_ix K rfl) (pv 0) pe_int (fun _ _ => rfl)) (pa_cons (pe_ix (k_ix K rfl) (pv 0) pe_int (fun _ _ => rfl)) pa_nil))) (pe_tup (pa_cons (pe_op op_sub pe_int (pe_ix (k_ix K rfl) (pv 0) pe_int (fun _ _ => rfl))) (pa_cons (pe_op op_sub pe_int (pe_ix (k_ix K rfl) (pv 0) pe_int (fun _ _ => rfl))) pa_nil)))))), ?_⟩
  refine s_ret E0 (de_if (b := up x) ?_ (fun h => ?_) fun h => ?_) fun v H' E1 hv => q v H' E1.ex hv
  · refine (dt_test (de_op (d1 := .tuple [.int x.2, .int x.1]) (d2 := .tuple [.int 0, .int 0]) (by walk_at "de") (by walk_at "de") (od_gt rfl (by simp) (by simp [PyData.depth, PyData.depthAll])))).is ?_
    rw [dataLt_pair]
    unfold up
    rw [Bool.eq_iff_iff]
    simp; omega
  · rw [placed, if_pos h]
    exact (show DE _ _ _ _ (.tuple [.int x.1, .int x.2]) by walk_at "de")
  · rw [placed, if_neg (by rw [h]; decide)]
    exact (show DE _ _ _ _ (.tuple [.int (0 - x.1), .int (0 - x.2)]) by walk_at "de")
abbrev s_lift_to : Stmt := topS 34
abbrev n_lift_to : List Str := ["kept", "gone", "goal", "side", "sign"]
theorem sc_lift_to : FnScope n_lift_to ["kept", "gone", "goal"] (defScope s_lift_to) := ⟨rfl, rfl, rfl, by decide +kernel, rfl, by decide +kernel, by decide +kernel⟩
def pre_lift_to (ds : List D) (r : D) : Prop := ∃ d1 d2 d3 x y z, ds = [d1, d2, d3] ∧ (IsP d1 x ∧ IsP d2 y ∧ IsP d3 z) ∧ (Sz 40000 x.1 ∧ Sz 40000 x.2 ∧ Sz 40000 y.1 ∧ Sz 40000 y.2 ∧ Sz 40000 z.1 ∧ Sz 40000 z.2) ∧ r = .tuple [.int (signOf x y z), .int (weightOf x y z)]
theorem sz_dt {n : Nat} {x y : Int × Int} (h1 : Sz n x.1) (h2 : Sz n x.2) (h3 : Sz n y.1) (h4 : Sz n y.2) : Sz (n + n + 1) (dt x y) := (h1.mul h4).sub (h2.mul h3)
theorem ok_lift_to (T : Bt mg) (F : Fun K "lift_to" "lift_to" s_lift_to f fd) (F_crossed : Fn P w K mg base "crossed" 1 ["one", "other"] (spD K pre_crossed)) : FnOk P w K mg base CX0 2 f fd ["kept", "gone", "goal"] (spD K pre_lift_to) := by
  refine fn_ok F sc_lift_to (n := 2) rfl (fun ds r h => ?_) (fun cdv A outer s H vs Q E B ds r hr hp E0 q => ?_)
  · obtain ⟨_, _, _, _, _, _, rfl, _⟩ := h; rfl
  obtain ⟨d1, d2, d3, x, y, z, rfl, ⟨h1, h2, h3⟩, ⟨z1, z2, z3, z4, z5, z6⟩, rfl⟩ := hp
  have m : ∀ {i : Int}, Sz 40000 i → Sz 100000 i := fun h => h.mono (by decide)
  have c1 : pre_crossed [d1, d2] (.int (dt x y)) := ⟨d1, d2, x, y, rfl, h1, h2, ⟨m z1, m z2, m z3, m z4⟩, rfl⟩
  have c2 : pre_crossed [d1, d3] (.int (dt x z)) := ⟨d1, d3, x, z, rfl, h1, h3, ⟨m z1, m z2, m z5, m z6⟩, rfl⟩
  have c3 : pre_crossed [d3, d2] (.int (dt z y)) := ⟨d3, d2, z, y, rfl, h3, h2, ⟨m z5, m z6, m z3, m z4⟩, rfl⟩
  have s1 : Sz 80001 (dt x y) := sz_dt z1 z2 z3 z4
  have s2 : Sz 80001 (dt x z) := sz_dt z1 z2 z5 z6
  have s3 : Sz 80001 (dt z y) := sz_dt z5 z6 z3 z4
  have s4 : Sz 160002 (signOf x y z) := s2.mul s1
  have s5 : Sz 240003 (signOf x y z * dt z y) := s4.mul s3
  refine ⟨_, (pss_cons (ps_set (i := 3) sc_lift_to.nd rfl (by first | exact Or.inl rfl | exact Or.inr rfl) (pe_fn F_crossed (hr.mono (by decide)) (by rfl) (pa_cons (pv 0) (pa_cons (pv 1) pa_nil))))
      (pss_cons (ps_set (i := 4) sc_lift_to.nd rfl (by first | exact Or.inl rfl | exact Or.inr rfl) (pe_op op_mulW (pe_fn F_crossed (hr.mono (by decide)) (by rfl) (pa_cons (pv 0) (pa_cons (pv 2) pa_nil))) (pv 3)))
      (pss_one (ps_ret (pe_tup (pa_cons (pv 4) (pa_cons (pe_op op_mulW (pe_op op_mulW (pv 4) (pe_fn F_crossed (hr.mono (by decide)) (by rfl) (pa_cons (pv 2) (pa_cons (pv 1) pa_nil)))) (pv 3)) pa_nil))))))), ?_⟩
  refine q_asg E0 (de_call (ds := [d1, d2]) (by walk_at "de") c1) fun σ1 H1 E1 => ?_
  refine q_asg E1 (d := .int (signOf x y z)) (de_op (de_call (ds := [d1, d3]) (by walk_at "de") c2) (de_var rfl) (od_i (mulW s2 s1 (by decide)))) fun σ2 H2 E2 => ?_
  refine s_ret E2 (show DE _ _ _ _ (.tuple [.int (signOf x y z), .int (weightOf x y z)]) from de_tup (da_cons (de_var rfl) (da_cons (de_op (de_op (de_var rfl) (de_call (ds := [d3, d2]) (by walk_at "de") c3) (od_i (mulW s4 s3 (by decide)))) (de_var rfl) (od_i (mulW s5 s1 (by decide)))) da_nil)) (by simp)) fun v H' E1 hv => q v H' E1.ex hv
abbrev s_is_turning : Stmt := topS 27
abbrev n_is_turning : List Str := ["value", "line"]
theorem sc_is_turning : FnScope n_is_turning ["value"] (defScope s_is_turning) := ⟨rfl, rfl, rfl, by decide +kernel, rfl, by decide +kernel, by decide +kernel⟩
def pre_is_turning (ds : List D) (r : D) : Prop := ∃ g h : Int × Int, ds = [.list [pL g, pL h]] ∧ (Sz 40000 g.1 ∧ Sz 40000 g.2 ∧ Sz 40000 h.1 ∧ Sz 40000 h.2) ∧ (dt g h = 1 ∨ dt g h = -1) ∧ r = .bool true
theorem ok_is_turning (T : Bt mg) (F : Fun K "is_turning" "is_turning" s_is_turning f fd) (F_are_wholes : Fn P w K mg base "are_wholes" 2 ["value"] (spD K pre_are_wholes)) (F_crossed : Fn P w K mg base "crossed" 1 ["one", "other"] (spD K pre_crossed)) : FnOk P w K mg base CX0 3 f fd ["value"] (spD K pre_is_turning) := by
  refine fn_ok F sc_is_turning (n := 1) rfl (fun ds r h => ?_) (fun cdv A outer s H vs Q E B ds r hr hp E0 q => ?_)
  · obtain ⟨_, _, rfl, _⟩ := h; rfl
  obtain ⟨g, h, rfl, ⟨z1, z2, z3, z4⟩, hu, rfl⟩ := hp
  have m : ∀ {i : Int}, Sz 40000 i → Sz 100000 i := fun h => h.mono (by decide)
  have c1 : pre_crossed [pL g, pL h] (.int (dt g h)) := ⟨pL g, pL h, g, h, rfl, .inl rfl, .inl rfl, ⟨m z1, m z2, m z3, m z4⟩, rfl⟩
  have cw : ∀ x : Int × Int, pre_are_wholes [pL x] (.bool true) := fun x => ⟨[x.1, x.2], by simp, rfl, rfl⟩
  refine ⟨_, (pss_cons (ps_if (PW.pt (pw_or (pt_not (pt_val (pe_callB (k_isi K rfl) (by rfl) T.b_isinstance boot_isinstance (pa_cons (pv 0) (pa_cons (pe_bltn (v := .ty "list") (by rfl) T.b_list boot_list rfl) pa_nil))))) (pw_or1 (pt_cmpR (k_ne K rfl hr.units) (pe_callB (k_len K rfl) (by rfl) T.b_len boot_len (pa_cons (pv 0) pa_nil)) pe_int (nomark _))))) (pss_one (ps_ret pe_bl)) pss_nil)
      (pss_cons (ps_if (pt_cmpR (k_ne K rfl hr.units) (pe_lc (own := [("line", 1)]) rfl sc_is_turning.nd (k_pl K rfl (pv 0)) (blkOk_by (by kernel_rfl)) (fun _ _ _ _ _ => pg_name (i := 1) sc_is_turning.nd rfl (by first | exact Or.inl rfl | exact Or.inr rfl)) (fun _ _ _ _ _ => (pts_one (PW.pt (pw_or (pt_not (pt_val (pe_fn F_are_wholes (hr.mono (by decide)) (by rfl) (pa_cons (pv 1) pa_nil)))) (pw_or1 (pt_cmpR (k_ne K rfl hr.units) (pe_callB (k_len K rfl) (by rfl) T.b_len boot_len (pa_cons (pv 1) pa_nil)) pe_int (nomark _))))))) (fun _ _ _ _ _ => (pv 1))) (pe_lst pa_nil) (nomark _)) (pss_one (ps_ret pe_bl)) pss_nil)
      (pss_one (ps_ret (pe_cmpR (k_eq K rfl hr.units) (pe_callB call_abs (by rfl) T.b_abs boot_abs (pa_cons (pe_fn F_crossed (hr.mono (by decide)) (by rfl) (pa_cons (pe_ix (k_ix K rfl) (pv 0) pe_int (fun _ _ => rfl)) (pa_cons (pe_ix (k_ix K rfl) (pv 0) pe_int (fun _ _ => rfl)) pa_nil))) pa_nil)) pe_int (nomark _)))))), ?_⟩
  refine q_ifN E0 ?_ fun H1 E1 => q_ifN E1 ?_ fun H2 E2 => ?_
  · refine (dt_or (a := false) (b := false) (dt_not (b := true) (by walk_at "de")) fun _ => ?_)
    exact (dt_test (de_op (by walk_at "de") de_int (od_ne (d1 := .int 2) (d2 := .int 2) (by decide +kernel) (by decide +kernel)))).is (by decide +kernel)
  · refine (dt_test (de_op (DL.de (DL.is (dl_lcF (xs := [g, h]) (enc := pL) _ (fun _ => false) (fun x => pL x) (di_list (de_var rfl)).dw (by simp) fun l x hx => ⟨dg_name (by simp), ?_, fun z => nomatch z⟩) (by simp))) (DL.de (dl_lst da_nil (by simp))) (od_ne shaped_nil shaped_nil))).is (by decide +kernel)
    refine dt_or (a := false) (b := false) (dt_not (b := true) (dt_B (de_call (ds := [pL x]) (by walk_at "de") (cw x)))) fun _ => ?_
    exact (dt_test (de_op (de_cb (ds := [.list [.int x.1, .int x.2]]) (by walk_at "de") ca_lenL) de_int (od_ne (d1 := .int 2) (d2 := .int 2) (by decide +kernel) (by decide +kernel)))).is (by decide +kernel)
  · refine s_ret E2 (DE.is (de_op (de_cb (ds := [.int (dt g h)]) (da_cons (de_call (ds := [pL g, pL h]) (by walk_at "de") c1) da_nil) ca_abs) de_int (od_eq (d2 := .int 1) rfl rfl)) ?_) fun v H' E1 hv => q v H' E1.ex hv
    show PyData.bool ((if dt g h < 0 then -dt g h else dt g h) == 1) = _
    rcases hu with e | e <;> rw [e] <;> rfl
abbrev s_check_matrix : Stmt := topS 28
abbrev n_check_matrix : List Str := ["numbers"]
theorem sc_check_matrix : FnScope n_check_matrix ["numbers"] (defScope s_check_matrix) := ⟨rfl, rfl, rfl, by decide +kernel, rfl, by decide +kernel, by decide +kernel⟩
def pre_check_matrix (ds : List D) (r : D) : Prop := ∃ g h : Int × Int, ds = [.list [pL g, pL h]] ∧ (Sz 40000 g.1 ∧ Sz 40000 g.2 ∧ Sz 40000 h.1 ∧ Sz 40000 h.2) ∧ (dt g h = 1 ∨ dt g h = -1) ∧ r = .none
theorem ok_check_matrix (T : Bt mg) (F : Fun K "check_matrix" "check_matrix" s_check_matrix f fd) (F_is_turning : Fn P w K mg base "is_turning" 3 ["value"] (spD K pre_is_turning)) : FnOk P w K mg base CX0 4 f fd ["numbers"] (spD K pre_check_matrix) := by
  refine fn_ok F sc_check_matrix (n := 0) rfl (fun ds r h => ?_) (fun cdv A outer s H vs Q E B ds r hr hp E0 q => ?_)
  · obtain ⟨_, _, rfl, _⟩ := h; rfl
  obtain ⟨g, h, rfl, hz, hu, rfl⟩ := hp
  refine ⟨_, (pss_one (ps_if (pt_not (pt_val (pe_fn F_is_turning (hr.mono (by decide)) (by rfl) (pa_cons (pv 0) pa_nil)))) (pss_one ps_never) pss_nil)), ?_⟩
  refine s_ifN E0 (dt_not (b := true) (dt_B (de_call (ds := [.list [pL g, pL h]]) (by walk_at "de") ⟨g, h, rfl, hz, hu, rfl⟩))) fun H2 E2 => ?_
  exact q _ _ E2.ex .non
end
end WS
namespace WS
open PySem PySem.Spec PyProof.Rows L2
local macro_rules | `(tactic| walk_at "num") => `(tactic| first | assumption | exact mulW (by assumption) (by assumption) (by decide))
local macro_rules | `(tactic| walk_at "de") => `(tactic| first
  | exact de_int | exact de_str | exact de_bl | exact de_non | exact de_var rfl | exact da_nil | exact do_none | assumption
  | ((with_reducible apply da_cons) <;> walk_at "de")
  | ((with_reducible apply de_tup) <;> first | walk_at "de" | (simp; done))
  | ((with_reducible apply de_op) <;> walk_at "de")
  | ((with_reducible show DE _ _ (tCB (rIsi _) (tCons _ (tCons (tC (.ty "int")) tNil))) _ _); apply isi_int; walk_at "de")
  | ((with_reducible show DE _ _ (tCB (rIsi _) (tCons _ (tCons (tC (.ty "bool")) tNil))) _ _); apply isi_bool; walk_at "de")
  | ((with_reducible show DE _ _ (tCB (rIsi _) (tCons _ (tCons (tC (.ty "list")) tNil))) _ _); apply isi_list; walk_at "de")
  | ((with_reducible show DE _ _ (tCB (rIsi _) (tCons _ (tCons (tC (.ty "tuple")) tNil))) _ _); apply isi_tup; walk_at "de")
  | ((with_reducible apply de_cb) <;> walk_at "de")
  | ((with_reducible apply de_neg) <;> walk_at "de")
  | ((with_reducible apply dt_test) <;> walk_at "de")
  | ((with_reducible apply dt_B) <;> walk_at "de")
  | ((with_reducible apply dt_not) <;> walk_at "de")
  | ((with_reducible apply de_notV) <;> walk_at "de")
  | ((with_reducible apply do_some) <;> walk_at "de")
  | exact ca_lenL | exact ca_lenT | exact ca_abs | exact ca_intI | exact ca_intB | exact ca_min2
  | exact od_i0 | exact od_b0
  | exact od_ixL rfl | exact od_ixT rfl
  | exact od_ixP0 (by assumption) | exact od_ixP1 (by assumption)
  | (refine od_i ?_; walk_at "num"))

/-! ### the sizes of a way's places -/
theorem L_le : ∀ (n a b : Nat), b < 2 ^ n → L a b ≤ n
  | 0, a, b, h => by
    have e : b = 0 := by
      rw [Nat.pow_zero] at h; omega
    subst e
    exact Nat.le_refl _
  | n + 1, a, b, h => by
    by_cases hb : b = 0
    · subst hb; exact Nat.zero_le _
    · have p : 0 < b := Nat.pos_of_ne_zero hb
      have h1 := rs_le a b p
      rw [L_rs p]
      have := L_le n b (rs a b) (by rw [Nat.pow_succ] at h; omega)
      omega
theorem LI_le {n : Nat} {a b : Int} (h : Sz n b) : LI a b ≤ n := L_le n _ _ h.lt
theorem sz_nearest {n : Nat} {t u : Int} (h : Sz n t) (hu : 0 < u) : Sz (n + 1) (nearest t u) := by
  have h1 : (t / u).natAbs ≤ t.natAbs := Int.natAbs_ediv_le_natAbs t u
  have h2 := h.lt
  refine ⟨?_⟩
  rw [Nat.pow_succ]
  have h3 : 0 < 2 ^ n := Nat.pow_pos (by decide)
  unfold nearest
  split <;> omega
theorem sz_rest {n : Nat} {t u : Int} (hu : 0 < u) (h : Sz n u) : Sz n (t - nearest t u * u) := by
  have h1 := nearest_rest (top := t) hu
  have h2 := h.lt
  exact ⟨by omega⟩
theorem sz_placed {n : Nat} {x : Int × Int} (h1 : Sz n x.1) (h2 : Sz n x.2) : Sz n (placed x).1 ∧ Sz n (placed x).2 := by
  rcases placed_lk x with e | e <;> rw [e]
  · exact ⟨h1, h2⟩
  · exact ⟨h1.neg, h2.neg⟩
/-- what the loop of way_to keeps: places found, the last one, the one ahead, what is left -/
structure WayAt (p0 : Int × Int) where
  pre : List (Int × Int)
  last : Int × Int
  ahead : Int × Int
  left : Int × Int
structure WayOk (p0 : Int × Int) (x : WayAt p0) : Prop where
  nn : 0 ≤ x.left.2
  way : wayTo p0 = x.pre ++ x.last :: wg (x.left.2.natAbs + 1) x.last x.ahead x.left
  s1 : Sz 100 x.left.1
  s2 : Sz 100 x.left.2
  sl : Sz (103 * x.pre.length + 1) x.last.1 ∧ Sz (103 * x.pre.length + 1) x.last.2
  sa : Sz (103 * x.pre.length + 1) x.ahead.1 ∧ Sz (103 * x.pre.length + 1) x.ahead.2
  all : ∀ z ∈ x.pre, Sz 10500 z.1 ∧ Sz 10500 z.2
  short : x.pre.length + LI x.left.1 x.left.2 ≤ 100
theorem wg_any : ∀ (n m : Nat) (last ahead p : Int × Int), 0 ≤ p.2 → p.2.natAbs < n → p.2.natAbs < m → wg n last ahead p = wg m last ahead p
  | 0, _, _, _, _, _, h, _ => absurd h (Nat.not_lt_zero _)
  | _ + 1, 0, _, _, _, _, _, h => absurd h (Nat.not_lt_zero _)
  | n + 1, m + 1, last, ahead, p, h0, h1, h2 => by
    unfold wg
    split
    · rfl
    · next hp =>
      have := nearest_placed h0 hp
      rw [wg_any n m _ _ _ (placed_nn _) (by omega) (by omega)]
def WayAt.next {p0 : Int × Int} (x : WayAt p0) : WayAt p0 :=
  ⟨x.pre ++ [x.last], (nearest x.left.1 x.left.2 * x.last.1 + x.ahead.1, nearest x.left.1 x.left.2 * x.last.2 + x.ahead.2), x.last, placed (x.left.2, x.left.1 - nearest x.left.1 x.left.2 * x.left.2)⟩
theorem WayOk.next {p0 : Int × Int} {x : WayAt p0} (h : WayOk p0 x) (hp : x.left.2 ≠ 0) : WayOk p0 x.next ∧ x.next.left.2.natAbs < x.left.2.natAbs := by
  have pos : 0 < x.left.2 := by have := h.nn; omega
  have lt := nearest_placed h.nn hp
  have z := sz_placed (x := (x.left.2, x.left.1 - nearest x.left.1 x.left.2 * x.left.2)) h.s2 (sz_rest pos h.s2)
  have zn := sz_nearest h.s1 pos
  have sh := h.short
  have li : LI x.left.1 x.left.2 = 1 + LI x.next.left.1 x.next.left.2 := by
    show _ = 1 + LI (placed _).1 (placed _).2
    rw [LI_placed]
    exact LI_near (q := nearest x.left.1 x.left.2) (by omega) hp (nearest_rest pos)
  refine ⟨⟨placed_nn _, ?_, z.1, z.2, ?_, ?_, ?_, ?_⟩, lt⟩
  · rw [h.way, wg, if_neg hp]
    show _ = (x.pre ++ [x.last]) ++ x.next.last :: wg (x.next.left.2.natAbs + 1) x.next.last x.last x.next.left
    rw [List.append_assoc, List.singleton_append]
    rw [wg_any _ x.left.2.natAbs _ _ x.next.left (placed_nn _) (Nat.lt_succ_self _) lt]
    rfl
  · show Sz (103 * (x.pre ++ [x.last]).length + 1) _ ∧ Sz (103 * (x.pre ++ [x.last]).length + 1) _
    rw [List.length_append, List.length_singleton]
    exact ⟨((zn.mul h.sl.1).add (h.sa.1.mono (by omega))).mono (by omega), ((zn.mul h.sl.2).add (h.sa.2.mono (by omega))).mono (by omega)⟩
  · show Sz (103 * (x.pre ++ [x.last]).length + 1) _ ∧ Sz (103 * (x.pre ++ [x.last]).length + 1) _
    rw [List.length_append, List.length_singleton]
    exact ⟨h.sl.1.mono (by omega), h.sl.2.mono (by omega)⟩
  · intro y hy
    rcases List.mem_append.mp hy with q | q
    · exact h.all y q
    · rw [List.mem_singleton.mp q]
      exact ⟨h.sl.1.mono (by omega), h.sl.2.mono (by omega)⟩
  · show (x.pre ++ [x.last]).length + _ ≤ 100
    rw [List.length_append, List.length_singleton]
    omega
theorem sz_one : Sz 1 1 := ⟨by decide⟩
theorem sz_zero : Sz 1 0 := ⟨by decide⟩
theorem sz_two : Sz 2 2 := ⟨by decide⟩
theorem wayOk_start {p0 : Int × Int} (h0 : 0 ≤ p0.2) (h1 : Sz 100 p0.1) (h2 : Sz 100 p0.2) : WayOk p0 ⟨[], (1, 0), (0, 1), p0⟩ :=
  ⟨h0, rfl, h1, h2, ⟨sz_one, sz_zero⟩, ⟨sz_zero, sz_one⟩, fun _ h => (List.not_mem_nil h).elim, by have := LI_le (a := p0.1) h2; simp; exact this⟩
theorem wayOk_end {p0 : Int × Int} {x : WayAt p0} (h : WayOk p0 x) (hp : x.left.2 = 0) : wayTo p0 = x.pre ++ [x.last] := by
  rw [h.way, wg, if_pos hp]
theorem wayTo_sz {p0 : Int × Int} : ∀ (n : Nat) (x : WayAt p0), x.left.2.natAbs ≤ n → WayOk p0 x → (wayTo p0).length ≤ 101 ∧ ∀ z ∈ wayTo p0, Sz 10500 z.1 ∧ Sz 10500 z.2 := by
  intro n
  induction n with
  | zero =>
    intro x hn h
    rw [wayOk_end h (by omega)]
    have sh := h.short
    refine ⟨by rw [List.length_append, List.length_singleton]; omega, fun z hz => ?_⟩
    rcases List.mem_append.mp hz with q | q
    · exact h.all z q
    · rw [List.mem_singleton.mp q]
      exact ⟨h.sl.1.mono (by omega), h.sl.2.mono (by omega)⟩
  | succ n ih =>
    intro x hn h
    by_cases hp : x.left.2 = 0
    · exact ih x (by omega) h
    · obtain ⟨h1, h2⟩ := h.next hp
      exact ih x.next (by omega) h1
theorem way_sz {p0 : Int × Int} (h0 : 0 ≤ p0.2) (h1 : Sz 100 p0.1) (h2 : Sz 100 p0.2) : (wayTo p0).length ≤ 101 ∧ ∀ z ∈ wayTo p0, Sz 10500 z.1 ∧ Sz 10500 z.2 := wayTo_sz _ _ (Nat.le_refl _) (wayOk_start h0 h1 h2)
section
variable {P : Program} {w : World} {K : PySem.W.Frag} {mg : Str → Option Value} {base : Heap} {f : Addr} {fd : FuncData}
abbrev s_way_to : Stmt := topS 31
abbrev n_way_to : List Str := ["place", "found", "ahead", "top", "under", "near", "last"]
theorem sc_way_to : FnScope n_way_to ["place"] (defScope s_way_to) := ⟨rfl, rfl, rfl, by decide +kernel, rfl, by decide +kernel, by decide +kernel⟩
def pre_way_to (ds : List D) (r : D) : Prop := ∃ p : Int × Int, ds = [pT p] ∧ 0 ≤ p.2 ∧ Sz 100 p.1 ∧ Sz 100 p.2 ∧ r = .list ((wayTo p).map pT)
theorem ok_way_to (T : Bt mg) (F : Fun K "way_to" "way_to" s_way_to f fd) (F_placed : Fn P w K mg base "placed" 1 ["row"] (spD K pre_placed)) : FnOk P w K mg base CX0 2 f fd ["place"] (spD K pre_way_to) := by
  refine fn_ok F sc_way_to (n := 6) rfl (fun ds r h => ?_) (fun cdv A outer s H vs Q E B ds r hr hp E0 q => ?_)
  · obtain ⟨_, rfl, _⟩ := h; rfl
  obtain ⟨p, rfl, h0, z1, z2, rfl⟩ := hp
  refine ⟨_, (pss_cons (ps_par (i := 1) (j := 2) rfl sc_way_to.nd rfl rfl (by decide) rfl rfl (pa_cons (pe_lst (pa_cons (pe_tup (pa_cons pe_int (pa_cons pe_int pa_nil))) pa_nil)) (pa_cons (pe_tup (pa_cons pe_int (pa_cons pe_int pa_nil))) pa_nil)) rfl)
      (pss_cons (ps_asg (pv 0) (k_gtup K (n := 2) rfl rfl (pgs_cons (pg_name (i := 3) sc_way_to.nd rfl (by first | exact Or.inl rfl | exact Or.inr rfl)) (pgs_cons (pg_name (i := 4) sc_way_to.nd rfl (by first | exact Or.inl rfl | exact Or.inr rfl)) pgs_nil))))
      (pss_cons (ps_while PassesOwn.never (pt_cmpR (k_ne K rfl hr.units) (pv 4) pe_int (nomark _)) (pss_cons (ps_set (i := 5) sc_way_to.nd rfl (by first | exact Or.inl rfl | exact Or.inr rfl) (pe_op op_add (pe_op op_fdivW (pv 3) (pv 4)) (pe_callTy call_int1 (by rfl) T.b_int boot_int (pa_cons (pe_cmpR op_gt (pe_op op_mulW pe_int (pe_op op_mod (pv 3) (pv 4))) (pv 4) (nomark _)) pa_nil))))
      (pss_cons (ps_set (i := 6) sc_way_to.nd rfl (by first | exact Or.inl rfl | exact Or.inr rfl) (pe_ix (k_ix K rfl) (pv 1) (pe_un un_neg pe_int) (fun _ _ => rfl)))
      (pss_cons (ps_expr (pe_bm PySem.F.plainAttrs_list PySem.F.slot_list_append PySem.F.type_list_append mt_append (pv 1) (pa_cons (pe_tup (pa_cons (pe_op op_add (pe_op op_mulW (pv 5) (pe_ix (k_ix K rfl) (pv 6) pe_int (fun _ _ => rfl))) (pe_ix (k_ix K rfl) (pv 2) pe_int (fun _ _ => rfl))) (pa_cons (pe_op op_add (pe_op op_mulW (pv 5) (pe_ix (k_ix K rfl) (pv 6) pe_int (fun _ _ => rfl))) (pe_ix (k_ix K rfl) (pv 2) pe_int (fun _ _ => rfl))) pa_nil))) pa_nil)))
      (pss_cons (ps_set (i := 2) sc_way_to.nd rfl (by first | exact Or.inl rfl | exact Or.inr rfl) (pv 6))
      (pss_one (ps_asg (pe_fn F_placed (hr.mono (by decide)) (by rfl) (pa_cons (pe_tup (pa_cons (pv 4) (pa_cons (pe_op op_sub (pv 3) (pe_op op_mulW (pv 5) (pv 4))) pa_nil))) pa_nil)) (k_gtup K (n := 2) rfl rfl (pgs_cons (pg_name (i := 3) sc_way_to.nd rfl (by first | exact Or.inl rfl | exact Or.inr rfl)) (pgs_cons (pg_name (i := 4) sc_way_to.nd rfl (by first | exact Or.inl rfl | exact Or.inr rfl)) pgs_nil))))))))))
      (pss_one (ps_ret (pv 1)))))), ?_⟩
  refine q_parO E0 (ds := [pT (1, 0)]) (d := pT (0, 1)) (dl_lst (by walk_at "de") (by simp)) (fun _ => by walk_at "de") fun l σ1 H1 E1 => ?_
  refine q_asgG E1 (vs := [3, 4]) (d := pT p) (by walk_at "de") (dg_pair (by simp) (by simp)) fun σ2 H2 E2 => ?_
  refine q_while (α := WayAt p) (fun x => [.dat (pT p), .own l ((x.pre ++ [x.last]).map pT), .dat (pT x.ahead), .dat (.int x.left.1), .dat (.int x.left.2), .emp, .emp]) (WayOk p) (fun x => !decide (x.left.2 = 0)) (fun x => x.left.2.natAbs) ⟨[], (1, 0), (0, 1), p⟩ (wayOk_start h0 z1 z2) E2 (fun x ok => ?_) (fun x ok hc => ?_) (fun x ok hc σ3 H3 E3 => ?_)
  · refine (dt_test (de_op (de_var rfl) de_int (od_ne (d1 := .int x.left.2) (d2 := .int 0) rfl rfl))).is ?_
    show (!(x.left.2 == 0)) = _
    by_cases e : x.left.2 = 0 <;> simp [e]
  · have hp : x.left.2 ≠ 0 := by simpa using hc
    have pos : 0 < x.left.2 := by have := ok.nn; omega
    obtain ⟨ok', lt⟩ := ok.next hp
    refine ⟨x.next, ok', lt, fun σ4 H4 E4 N hN _ _ _ => ?_⟩
    have zr : Sz 100 (x.left.1 % x.left.2) := ⟨by
      have a := ok.s2.lt
      have b := Int.emod_nonneg x.left.1 hp
      have c := Int.emod_lt_of_pos x.left.1 pos
      omega⟩
    have zn := sz_nearest ok.s1 pos
    have sh := ok.short
    have zl1 : Sz 10500 x.last.1 := ok.sl.1.mono (by omega)
    have zl2 : Sz 10500 x.last.2 := ok.sl.2.mono (by omega)
    refine q_asg E4 (d := .int (nearest x.left.1 x.left.2)) ?_ fun σ5 H5 E5 => ?_
    · exact de_op (de_op (de_var rfl) (de_var rfl) (od_i (divW pos ok.s2 (by decide)))) (de_cb (ds := [.bool (decide (x.left.2 < 2 * (x.left.1 % x.left.2)))]) (da_cons (de_op (de_op de_int (de_op (de_var rfl) (de_var rfl) (od_i pos)) (od_i (mulW sz_two zr (by decide)))) (de_var rfl) od_b0) da_nil) ca_intB) od_i0
    refine q_asg E5 (d := pT x.last) (de_ixOwn (j := -1) rfl (by walk_at "de") (by rw [List.map_append]; exact atI_last _ _)) fun σ6 H6 E6 => ?_
    refine q_app E6 (d := pT x.next.last) rfl ?_ (by simp; omega) fun H7 E7 => ?_
    · exact de_tup (da_cons (de_op (de_op (de_var rfl) (de_op (de_var rfl) de_int (od_ixT rfl)) (od_i (mulW zn zl1 (by decide)))) (de_op (de_var rfl) de_int (od_ixT rfl)) od_i0) (da_cons (de_op (de_op (de_var rfl) (de_op (de_var rfl) de_int (od_ixT rfl)) (od_i (mulW zn zl2 (by decide)))) (de_op (de_var rfl) de_int (od_ixT rfl)) od_i0) da_nil)) (by simp)
    refine q_asg E7 (d := pT x.last) (de_var rfl) fun σ8 H8 E8 => ?_
    refine s_asgG E8 (vs := [3, 4]) (d := pT x.next.left) ?_ (dg_pair (by simp) (by simp)) fun σ9 H9 E9 => ?_
    · exact de_call (ds := [pT (x.left.2, x.left.1 - nearest x.left.1 x.left.2 * x.left.2)]) (da_cons (de_tup (da_cons (de_var rfl) (da_cons (de_op (de_var rfl) (de_op (de_var rfl) (de_var rfl) (od_i (mulW zn ok.s2 (by decide)))) od_i0) da_nil)) (by simp)) da_nil) ⟨_, _, rfl, .inr rfl, rfl⟩
    · refine hN σ9 H9 ?_
      have E10 := (E9.forget 5).forget 6
      have e : (x.pre ++ [x.last]).map pT ++ [pT x.next.last] = (x.next.pre ++ [x.next.last]).map pT := by
        show _ = ((x.pre ++ [x.last]) ++ [x.next.last]).map pT
        rw [List.map_append (l₂ := [x.next.last])]; rfl
      rw [e] at E10
      exact E10
  · have hp : x.left.2 = 0 := by simpa using hc
    have E4 := E3.freeze (i := 1) (B' := B) rfl (E0.nin (by
      have := E1.new 1 l _ rfl
      exact this)) (fun b hb => List.mem_cons_of_mem _ hb) (fun j l' ds' hj hq => ?_)
    · refine s_ret E4 (d := .list ((wayTo p).map pT)) (by rw [wayOk_end ok hp]; exact de_var rfl) ?_
      exact fun v H' E5 hv => q v H' E5.ex hv
    · rcases j with _ | _ | _ | _ | _ | _ | _ | j
      all_goals first | (exact absurd rfl hj) | (cases hq)
end
end WS
namespace WS
open PySem PySem.Spec PyProof.Rows L2
local macro_rules | `(tactic| walk_at "num") => `(tactic| first | assumption | exact mulW (by assumption) (by assumption) (by decide))
local macro_rules | `(tactic| walk_at "de") => `(tactic| first
  | exact de_int | exact de_str | exact de_bl | exact de_non | exact de_var rfl | exact da_nil | exact do_none | assumption
  | ((with_reducible apply da_cons) <;> walk_at "de")
  | ((with_reducible apply de_tup) <;> first | walk_at "de" | (simp; done))
  | ((with_reducible apply de_op) <;> walk_at "de")
  | ((with_reducible show DE _ _ (tCB (rIsi _) (tCons _ (tCons (tC (.ty "int")) tNil))) _ _); apply isi_int; walk_at "de")
  | ((with_reducible show DE _ _ (tCB (rIsi _) (tCons _ (tCons (tC (.ty "bool")) tNil))) _ _); apply isi_bool; walk_at "de")
  | ((with_reducible show DE _ _ (tCB (rIsi _) (tCons _ (tCons (tC (.ty "list")) tNil))) _ _); apply isi_list; walk_at "de")
  | ((with_reducible show DE _ _ (tCB (rIsi _) (tCons _ (tCons (tC (.ty "tuple")) tNil))) _ _); apply isi_tup; walk_at "de")
  | ((with_reducible apply de_cb) <;> walk_at "de")
  | ((with_reducible apply de_neg) <;> walk_at "de")
  | ((with_reducible apply dt_test) <;> walk_at "de")
  | ((with_reducible apply dt_B) <;> walk_at "de")
  | ((with_reducible apply dt_not) <;> walk_at "de")
  | ((with_reducible apply de_notV) <;> walk_at "de")
  | ((with_reducible apply do_some) <;> walk_at "de")
  | exact ca_lenL | exact ca_lenT | exact ca_abs | exact ca_intI | exact ca_intB | exact ca_min2
  | exact od_i0 | exact od_b0
  | exact od_ixL rfl | exact od_ixT rfl
  | exact od_ixP0 (by assumption) | exact od_ixP1 (by assumption)
  | (refine od_i ?_; walk_at "num"))

theorem sort2 {α : Type} (le : α → α → Bool) (a b : α) : [a, b].mergeSort le = if le a b = true then [a, b] else [b, a] := by
  simp [List.mergeSort, List.MergeSort.Internal.splitInTwo, List.merge]
theorem dataLe_eq (a b : D) : PySem.W.dataLe false (fun d => d) a b = !PySem.W.dataLt b a := rfl
theorem eqv_pT (x y : Int × Int) : PyData.eqv (pT x) (pT y) = decide (x = y) := by
  show ((x.1 == y.1) && ((x.2 == y.2) && true)) = _
  rw [Bool.eq_iff_iff]
  simp [Prod.ext_iff]
theorem eqv_pL (x y : Int × Int) : PyData.eqv (pL x) (pL y) = decide (x = y) := by
  show ((x.1 == y.1) && ((x.2 == y.2) && true)) = _
  rw [Bool.eq_iff_iff]
  simp [Prod.ext_iff]
theorem eqv_2 (a b c d : D) : PyData.eqv (.list [a, b]) (.list [c, d]) = (PyData.eqv a c && PyData.eqv b d) := by
  show (PyData.eqv a c && (PyData.eqv b d && true)) = _
  rw [Bool.and_true]
theorem sorted_unit (a b : Int × Int) : PyData.eqv (.list ([pT a, pT b].mergeSort (PySem.W.dataLe false fun d => d))) (.list [pT (0, 1), pT (1, 0)]) = ((decide (a = (0, 1)) && decide (b = (1, 0))) || (decide (a = (1, 0)) && decide (b = (0, 1)))) := by
  rw [sort2, dataLe_eq]
  obtain ⟨a1, a2⟩ := a
  obtain ⟨b1, b2⟩ := b
  rw [dataLt_pair]
  split
  · next h =>
    rw [eqv_2, eqv_pT, eqv_pT, Bool.eq_iff_iff]
    simp at h ⊢
    omega
  · next h =>
    rw [eqv_2, eqv_pT, eqv_pT, Bool.eq_iff_iff]
    simp at h ⊢
    omega
theorem sorted_unitL (a b : Int × Int) : PyData.eqv (.list ([pL a, pL b].mergeSort (PySem.W.dataLe false fun d => d))) (.list [pL (0, 1), pL (1, 0)]) = ((decide (a = (0, 1)) && decide (b = (1, 0))) || (decide (a = (1, 0)) && decide (b = (0, 1)))) := by
  rw [sort2, dataLe_eq]
  obtain ⟨a1, a2⟩ := a
  obtain ⟨b1, b2⟩ := b
  rw [dataLt_pairL]
  split
  · next h =>
    rw [eqv_2, eqv_pL, eqv_pL, Bool.eq_iff_iff]
    simp at h ⊢
    omega
  · next h =>
    rw [eqv_2, eqv_pL, eqv_pL, Bool.eq_iff_iff]
    simp at h ⊢
    omega
theorem lay_pT (x : Int × Int) : (pT x).canLay0 = true := by simp [PyData.canLay0, PyData.canLayAll0]
theorem lay_pL (x : Int × Int) : (pL x).canLay0 = true := by simp [PyData.canLay0, PyData.canLayAll0]
theorem lay_map {α : Type} (f : α → D) (h : ∀ x, (f x).canLay0 = true) : ∀ xs : List α, PyData.canLayAll0 (xs.map f) = true
  | [] => by simp [PyData.canLayAll0]
  | x :: xs => by
    rw [List.map_cons]
    simp [PyData.canLayAll0, h x, lay_map f h xs]
theorem dep_map {α : Type} (f : α → D) (n : Nat) (h : ∀ x, (f x).depth ≤ n) : ∀ xs : List α, PyData.depthAll (xs.map f) ≤ n
  | [] => by simp [PyData.depthAll]
  | x :: xs => by
    rw [List.map_cons]
    have h1 := h x
    have h2 := dep_map f n h xs
    simp only [PyData.depthAll]
    omega
theorem shaped_of {d : D} {n : Nat} (h1 : d.canLay0 = true) (h2 : d.depth ≤ n) (hn : n ≤ 64) : SeqAt.shaped d = true := by
  show (d.canLay0 && decide (d.depth ≤ 64)) = true
  rw [h1, decide_eq_true (by omega)]; rfl
theorem dep_pT (x : Int × Int) : (pT x).depth = 1 := by simp [PyData.depth, PyData.depthAll]
theorem dep_pL (x : Int × Int) : (pL x).depth = 1 := by simp [PyData.depth, PyData.depthAll]
theorem shaped_2 {a b : D} {n : Nat} (h1 : a.canLay0 = true) (h2 : b.canLay0 = true) (d1 : a.depth ≤ n) (d2 : b.depth ≤ n) (hn : n ≤ 60) : SeqAt.shaped (.list [a, b]) = true :=
  shaped_of (n := n + 1) (by simp [PyData.canLay0, PyData.canLayAll0, h1, h2]) (by simp only [PyData.depth, PyData.depthAll]; omega) (by omega)
theorem shaped_sort (a b : D) {n : Nat} (h1 : a.canLay0 = true) (h2 : b.canLay0 = true) (d1 : a.depth ≤ n) (d2 : b.depth ≤ n) (hn : n ≤ 60) : SeqAt.shaped (.list ([a, b].mergeSort (PySem.W.dataLe false fun d => d))) = true := by
  rw [sort2]
  split
  · exact shaped_2 h1 h2 d1 d2 hn
  · exact shaped_2 h2 h1 d2 d1 hn
theorem sortable_pT (a b : Int × Int) : PySem.W.AllAlike [pT a, pT b] ∧ PySem.W.Sortable [pT a, pT b] := by
  constructor
  · intro d hd d' hd'
    simp only [List.mem_cons, List.not_mem_nil, or_false] at hd hd'
    rcases hd with rfl | rfl <;> rcases hd' with rfl | rfl <;> rfl
  · refine .inl fun d hd => ?_
    simp only [List.mem_cons, List.not_mem_nil, or_false] at hd
    rcases hd with rfl | rfl <;> exact ⟨_, _, rfl⟩
theorem sortable_pL (a b : Int × Int) : PySem.W.AllAlike [pL a, pL b] ∧ PySem.W.Sortable [pL a, pL b] := by
  constructor
  · intro d hd d' hd'
    simp only [List.mem_cons, List.not_mem_nil, or_false] at hd hd'
    rcases hd with rfl | rfl <;> rcases hd' with rfl | rfl <;> rfl
  · refine .inr fun d hd => ?_
    simp only [List.mem_cons, List.not_mem_nil, or_false] at hd
    rcases hd with rfl | rfl <;> exact ⟨by simp, by simp⟩
/-- a way, as data -/
abbrev wL (w : List (Int × Int)) : D := .list (w.map pT)
def wayD (g : Int × Int) : List (Int × Int) := wayTo (placed g)
def wayB (g : Int × Int) : List (Int × Int) := (wayTo (placed (flip (placed g)))).map flip
theorem ways_eq (g h : Int × Int) : ways g h = [wayD g, wayD h, wayB g, wayB h] := rfl
theorem m4_mem (a b c d : Nat) : m4 a b c d = a ∨ m4 a b c d = b ∨ m4 a b c d = c ∨ m4 a b c d = d := by unfold m4; omega
section
variable {P : Program} {w : World} {K : PySem.W.Frag} {mg : Str → Option Value} {base : Heap} {f : Addr} {fd : FuncData}
abbrev s_least_way : Stmt := topS 32
abbrev n_least_way : List Str := ["numbers", "ends", "ways", "end", "short", "line", "top", "under", "way"]
theorem sc_least_way : FnScope n_least_way ["numbers"] (defScope s_least_way) := ⟨rfl, rfl, rfl, by decide +kernel, rfl, by decide +kernel, by decide +kernel⟩
def pre_least_way (ds : List D) (r : D) : Prop := ∃ g h : Int × Int, ds = [.list [pL g, pL h]] ∧ (Sz 100 g.1 ∧ Sz 100 g.2 ∧ Sz 100 h.1 ∧ Sz 100 h.2) ∧ r = wL (leastWay g h)
theorem ok_least_way (T : Bt mg) (F : Fun K "least_way" "least_way" s_least_way f fd) (F_placed : Fn P w K mg base "placed" 1 ["row"] (spD K pre_placed)) (F_way_to : Fn P w K mg base "way_to" 2 ["place"] (spD K pre_way_to)) : FnOk P w K mg base CX0 3 f fd ["numbers"] (spD K pre_least_way) := by
  refine fn_ok F sc_least_way (n := 8) rfl (fun ds r h => ?_) (fun cdv A outer s H vs Q E B ds r hr hp E0 q => ?_)
  · obtain ⟨_, _, rfl, _⟩ := h; rfl
  obtain ⟨g, h, rfl, ⟨z1, z2, z3, z4⟩, rfl⟩ := hp
  refine ⟨_, (pss_cons (ps_setLc (i := 1) (own := [("line", 5)]) rfl sc_least_way.nd rfl rfl (sw_true rfl rfl rfl (by decide +kernel)) (k_pl K rfl (pv 0)) (blkOk_by (by kernel_rfl)) (fun _ _ _ _ _ => pg_name (i := 5) sc_least_way.nd rfl (by first | exact Or.inl rfl | exact Or.inr rfl)) (fun _ _ _ _ _ => pts_nil) (fun _ _ _ _ _ => (pe_fn F_placed (hr.mono (by decide)) (by rfl) (pa_cons (pv 5) pa_nil))))
      (pss_cons (ps_if (pt_cmpR (k_eq K rfl hr.units) (pe_callB (k_sort K rfl hr.units) (by rfl) T.b_sorted boot_sorted (pa_cons (pv 1) pa_nil)) (pe_lst (pa_cons (pe_tup (pa_cons pe_int (pa_cons pe_int pa_nil))) (pa_cons (pe_tup (pa_cons pe_int (pa_cons pe_int pa_nil))) pa_nil))) (nomark _)) (pss_one (ps_ret (pe_lst pa_nil))) pss_nil)
      (pss_cons (ps_setLc (i := 2) (own := [("end", 3)]) rfl sc_least_way.nd rfl rfl (sw_true rfl rfl rfl (by decide +kernel)) (k_pl K rfl (pv 1)) (blkOk_by (by kernel_rfl)) (fun _ _ _ _ _ => pg_name (i := 3) sc_least_way.nd rfl (by first | exact Or.inl rfl | exact Or.inr rfl)) (fun _ _ _ _ _ => pts_nil) (fun _ _ _ _ _ => (pe_fn F_way_to (hr.mono (by decide)) (by rfl) (pa_cons (pv 3) pa_nil))))
      (pss_cons (ps_for PassesOwn.never rfl (k_pl K rfl (pv 1)) (pg_name (i := 3) sc_least_way.nd rfl (by first | exact Or.inl rfl | exact Or.inr rfl)) (pss_one (ps_expr (pe_bm PySem.F.plainAttrs_list PySem.F.slot_list_append PySem.F.type_list_append mt_append (pv 2) (pa_cons (pe_lc (own := [("top", 6), ("under", 7)]) rfl sc_least_way.nd (k_pl K rfl (pe_fn F_way_to (hr.mono (by decide)) (by rfl) (pa_cons (pe_fn F_placed (hr.mono (by decide)) (by rfl) (pa_cons (pe_tup (pa_cons (pe_ix (k_ix K rfl) (pv 3) pe_int (fun _ _ => rfl)) (pa_cons (pe_ix (k_ix K rfl) (pv 3) pe_int (fun _ _ => rfl)) pa_nil))) pa_nil)) pa_nil))) (blkOk_by (by kernel_rfl)) (fun _ _ _ _ _ => k_gtup K (n := 2) rfl rfl (pgs_cons (pg_name (i := 6) sc_least_way.nd rfl (by first | exact Or.inl rfl | exact Or.inr rfl)) (pgs_cons (pg_name (i := 7) sc_least_way.nd rfl (by first | exact Or.inl rfl | exact Or.inr rfl)) pgs_nil))) (fun _ _ _ _ _ => pts_nil) (fun _ _ _ _ _ => (pe_tup (pa_cons (pv 7) (pa_cons (pv 6) pa_nil))))) pa_nil)))))
      (pss_cons (ps_set (i := 4) sc_least_way.nd rfl (by first | exact Or.inl rfl | exact Or.inr rfl) (pe_callB (k_min K rfl rfl) (by rfl) T.b_min boot_min (pa_cons (pe_lc (own := [("way", 8)]) rfl sc_least_way.nd (k_pl K rfl (pv 2)) (blkOk_by (by kernel_rfl)) (fun _ _ _ _ _ => pg_name (i := 8) sc_least_way.nd rfl (by first | exact Or.inl rfl | exact Or.inr rfl)) (fun _ _ _ _ _ => pts_nil) (fun _ _ _ _ _ => (pe_callB (k_len K rfl) (by rfl) T.b_len boot_len (pa_cons (pv 8) pa_nil)))) pa_nil)))
      (pss_one (ps_ret (pe_ix (k_ix K rfl) (pe_lc (own := [("way", 8)]) rfl sc_least_way.nd (k_pl K rfl (pv 2)) (blkOk_by (by kernel_rfl)) (fun _ _ _ _ _ => pg_name (i := 8) sc_least_way.nd rfl (by first | exact Or.inl rfl | exact Or.inr rfl)) (fun _ _ _ _ _ => (pts_one (pt_cmpR (k_eq K rfl hr.units) (pe_callB (k_len K rfl) (by rfl) T.b_len boot_len (pa_cons (pv 8) pa_nil)) (pv 4) (nomark _)))) (fun _ _ _ _ _ => (pv 8))) pe_int (fun _ _ => rfl))))))))), ?_⟩
  refine q_asg E0 (d := .list ([g, h].map fun x => pT (placed x))) (DL.de (dl_lc (xs := [g, h]) (enc := pL) _ _ (di_list (de_var rfl)).dw (by simp) fun l x hx => ⟨dg_name (by simp), ?_⟩)) fun σ1 H1 E1 => ?_
  · exact de_call (ds := [pL x]) (by walk_at "de") ⟨pL x, x, rfl, .inl rfl, rfl⟩
  have so := sortable_pT (placed g) (placed h)
  refine q_if E1 (b := unitP g h) ?_ (fun hb H2 E2 => ?_) fun hb H2 E2 => ?_
  · refine (dt_test (de_op (de_cb (ds := [.list [pT (placed g), pT (placed h)]]) (by walk_at "de") (ca_sortD so.1 so.2 (by simp) (by simp [dep_pT]))) (DL.de (dl_lst (ds := [pT (0, 1), pT (1, 0)]) (by walk_at "de") (by simp))) (od_eq (shaped_sort _ _ (lay_pT _) (lay_pT _) (Nat.le_of_eq (dep_pT _)) (Nat.le_of_eq (dep_pT _)) (by decide)) (shaped_2 (lay_pT _) (lay_pT _) (Nat.le_of_eq (dep_pT _)) (Nat.le_of_eq (dep_pT _)) (by decide))))).is ?_
    rw [sorted_unit]; rfl
  · refine s_ret E2 (d := wL (leastWay g h)) ((DL.de (dl_lst da_nil (by simp))).is ?_) ?_
    · unfold leastWay; rw [if_pos hb]; rfl
    · exact fun v H' E3 hv => q v H' E3.ex hv
  have szp : ∀ x : Int × Int, x ∈ [g, h] → Sz 100 (placed x).1 ∧ Sz 100 (placed x).2 := fun x hx => by
    simp only [List.mem_cons, List.not_mem_nil, or_false] at hx
    rcases hx with rfl | rfl
    · exact sz_placed z1 z2
    · exact sz_placed z3 z4
  refine q_asgO E2 (ds := [g, h].map fun x => wL (wayD x)) (dl_lc (xs := [g, h]) (enc := fun x => pT (placed x)) _ _ (di_list (de_var rfl)).dw (by simp) fun l x hx => ⟨dg_name (by simp), ?_⟩) fun l σ3 H3 E3 => ?_
  · exact de_call (ds := [pT (placed x)]) (by walk_at "de") ⟨placed x, rfl, placed_nn x, (szp x hx).1, (szp x hx).2, rfl⟩
  refine q_for E3 (vs := [3]) (ds := [pT (placed g), pT (placed h)]) (di_list (de_var rfl)) (fun i => [.dat (.list [pL g, pL h]), .dat (.list [pT (placed g), pT (placed h)]), .own l ([wL (wayD g), wL (wayD h)] ++ [wL (wayB g), wL (wayB h)].take i), .emp, .emp, .emp, .emp, .emp, .emp]) rfl (fun i j l' es hq => ?_) (fun i d hd => ?_) fun σ4 H4 E4 => ?_
  · rcases j with _ | _ | _ | j
    · cases hq
    · cases hq
    · have e : l = l' := by injection hq with e; injection e
      rw [← e]; exact E3.new 2 l _ rfl
    · rcases j with _ | _ | _ | _ | _ | _ | j <;> cases hq
  · refine ⟨_, dg_name (by simp), fun H0' σ' H' E5 N hN _ _ _ => ?_⟩
    obtain ⟨x, hx, e1, e2⟩ : ∃ x, x ∈ [g, h] ∧ d = pT (placed x) ∧ ([wL (wayD g), wL (wayD h)] ++ [wL (wayB g), wL (wayB h)].take i) ++ [wL (wayB x)] = [wL (wayD g), wL (wayD h)] ++ [wL (wayB g), wL (wayB h)].take (i + 1) := by
      rcases i with _ | _ | i
      · exact ⟨g, by simp, (Option.some.inj hd).symm, rfl⟩
      · exact ⟨h, by simp, (Option.some.inj hd).symm, rfl⟩
      · simp at hd
    subst e1
    have z := sz_placed (szp x hx).2 (szp x hx).1 (x := flip (placed x))
    refine s_app E5 (i := 2) (d := wL (wayB x)) rfl ?_ ?_ ?_
    · refine DL.de (DL.is (dl_lc (xs := wayTo (placed (flip (placed x)))) (enc := pT) _ (fun z => pT (flip z)) (DI.dw (di_list (de_call (ds := [pT (placed (flip (placed x)))]) (da_cons (de_call (ds := [pT (flip (placed x))]) ?_ ⟨_, _, rfl, .inr rfl, rfl⟩) da_nil) ⟨_, rfl, placed_nn _, z.1, z.2, rfl⟩))) ?_ fun l z hz => ⟨dg_pair (by simp) (by simp), ?_⟩) ?_)
      · walk_at "de"
      · have := (way_sz (placed_nn (flip (placed x))) z.1 z.2).1
        omega
      · exact (show DE _ _ _ _ (.tuple [.int z.2, .int z.1]) by walk_at "de")
      · unfold wayB; rw [List.map_map]; rfl
    · simp; omega
    · intro H6 E6
      refine hN σ' H6 ?_
      have E7 := E6.forget 3
      rw [e2] at E7
      exact E7
  have E4 : Env K (l :: B) H σ4 H4 [.dat (.list [pL g, pL h]), .dat (.list [pT (placed g), pT (placed h)]), .own l ((ways g h).map wL), .emp, .emp, .emp, .emp, .emp, .emp] := E4
  refine q_asg E4 (d := .int (shortest g h : Nat)) (de_cb (ds := [.list (((ways g h).map fun w => (w.length : Int)).map .int)]) (da_cons (DL.de ((dl_lc (xs := ways g h) (enc := wL) _ (fun w => .int (w.length : Int)) (dw_own rfl) (by rw [ways_eq]; simp) fun l w hw => ⟨dg_name (by simp), ?_⟩).is ?_)) da_nil) (ca_min ?_ ?_)) fun σ5 H5 E5 => ?_
  · exact (de_cb (ds := [wL w]) (by walk_at "de") ca_lenL).is (by rw [List.length_map])
  · rw [List.map_map]; rfl
  · rw [ways_eq]
    have := m4_mem (wayTo (placed g)).length (wayTo (placed h)).length (wayTo (placed (flip (placed g)))).length (wayTo (placed (flip (placed h)))).length
    unfold shortest wayD wayB
    simp only [List.map_cons, List.map_nil, List.length_map, List.mem_cons, List.not_mem_nil, or_false]
    omega
  · rw [ways_eq]
    unfold shortest wayD wayB m4
    simp only [List.map_cons, List.map_nil, List.length_map, List.mem_cons, List.not_mem_nil, or_false]
    intro y hy
    omega
  have hm := leastWay_mem hb
  have hl : leastWay g h = ((ways g h).filter fun w => decide (w.length = shortest g h)).headD [] := by unfold leastWay; rw [hb]; rfl
  refine s_ret E5 (d := wL (leastWay g h)) (de_op (DL.de (dl_lcF (xs := ways g h) (enc := wL) _ (fun w => decide (w.length = shortest g h)) wL (dw_own rfl) (by rw [ways_eq]; simp) fun l w hw => ⟨dg_name (by simp), ?_, fun _ => de_var rfl⟩)) de_int (od_ixL ?_)) ?_
  · refine (dt_test (de_op (de_cb (ds := [wL w]) (by walk_at "de") ca_lenL) (de_var rfl) (od_eq (d1 := .int ((w.map pT).length : Int)) (d2 := .int (shortest g h : Nat)) rfl rfl))).is ?_
    show (((w.map pT).length : Int) == ((shortest g h : Nat) : Int)) = _
    rw [List.length_map, Bool.eq_iff_iff]
    simp
    omega
  · rw [hl]
    have ex : ((ways g h).filter fun w => decide (w.length = shortest g h)) ≠ [] := by
      intro z
      have : leastWay g h ∈ (ways g h).filter fun w => decide (w.length = shortest g h) := List.mem_filter.mpr ⟨hm.1, decide_eq_true hm.2⟩
      rw [z] at this
      exact List.not_mem_nil this
    cases e : ((ways g h).filter fun w => decide (w.length = shortest g h)) with
    | nil => exact absurd e ex
    | cons a t => exact atI_nat (j := 0) rfl
  · exact fun v H' E6 hv => q v H' E6.ex (hv.ex (msk_sub fun b hb => List.mem_cons_of_mem _ hb))
abbrev s_fewest_lifts : Stmt := topS 33
abbrev n_fewest_lifts : List Str := ["numbers"]
theorem sc_fewest_lifts : FnScope n_fewest_lifts ["numbers"] (defScope s_fewest_lifts) := ⟨rfl, rfl, rfl, by decide +kernel, rfl, by decide +kernel, by decide +kernel⟩
def pre_fewest_lifts (ds : List D) (r : D) : Prop := ∃ g h : Int × Int, ds = [.list [pL g, pL h]] ∧ (Sz 100 g.1 ∧ Sz 100 g.2 ∧ Sz 100 h.1 ∧ Sz 100 h.2) ∧ (dt g h = 1 ∨ dt g h = -1) ∧ r = .int (fw (mxOf g h) : Nat)
theorem ok_fewest_lifts (T : Bt mg) (F : Fun K "fewest_lifts" "fewest_lifts" s_fewest_lifts f fd) (F_check_matrix : Fn P w K mg base "check_matrix" 4 ["numbers"] (spD K pre_check_matrix)) (F_least_way : Fn P w K mg base "least_way" 3 ["numbers"] (spD K pre_least_way)) : FnOk P w K mg base CX0 5 f fd ["numbers"] (spD K pre_fewest_lifts) := by
  refine fn_ok F sc_fewest_lifts (n := 0) rfl (fun ds r h => ?_) (fun cdv A outer s H vs Q E B ds r hr hp E0 q => ?_)
  · obtain ⟨_, _, rfl, _⟩ := h; rfl
  obtain ⟨g, h, rfl, ⟨z1, z2, z3, z4⟩, hu, rfl⟩ := hp
  have m : ∀ {i : Int}, Sz 100 i → Sz 40000 i := fun h => h.mono (by decide)
  refine ⟨_, (pss_cons (ps_expr (pe_fn F_check_matrix (hr.mono (by decide)) (by rfl) (pa_cons (pv 0) pa_nil)))
      (pss_one (ps_ret (pe_callB (k_len K rfl) (by rfl) T.b_len boot_len (pa_cons (pe_fn F_least_way (hr.mono (by decide)) (by rfl) (pa_cons (pv 0) pa_nil)) pa_nil))))), ?_⟩
  refine q_drop E0 (d := .none) (de_call (ds := [.list [pL g, pL h]]) (by walk_at "de") ⟨g, h, rfl, ⟨m z1, m z2, m z3, m z4⟩, hu, rfl⟩) fun H1 E1 => ?_
  refine s_ret E1 (d := .int (fw (mxOf g h) : Nat)) ((de_cb (ds := [wL (leastWay g h)]) (da_cons (de_call (ds := [.list [pL g, pL h]]) (by walk_at "de") ⟨g, h, rfl, ⟨z1, z2, z3, z4⟩, rfl⟩) da_nil) ca_lenL).is ?_) ?_
  · rw [List.length_map, leastWay_len hu]
  · exact fun v H' E2 hv => q v H' E2.ex hv
end
end WS
/-! Mixers as values. -/
namespace WS
open PySem PySem.Spec PyProof.Rows L2
/-- what stands of the class at C -/
structure Ct (K : PySem.W.Frag) (mg : Str → Option Value) (C : Addr) : Prop where
  cls : Cls K C
  nMany : NoAttr K C "many"
  nRows : NoAttr K C "rows"
  gMixer : mg "Mixer" = some (.ref C)
  gMOST : ∃ t, mg "MOST_WAYS" = some (.int 4 t)
  hc : PySem.W.findIn K (.ref C) "__class__" = some (some (.builtin "object.__class__"))
  hn : PySem.W.specialIn K (.builtin "object.__class__") "__get__" = some (some (.builtin "getset_descriptor.__get__"))
  ht : PySem.W.takesIn K (.builtin "object.__class__") = some true
  hm : PySem.W.mroIn K C (.type "object") = some true
structure Mt (P : Program) (w : World) (K : PySem.W.Frag) (mg : Str → Option Value) (base : Heap) (C : Addr) (m : Str) (k : Nat) (ps : List Str) (sp : Sp) : Prop where
  ex : ∃ (f : Addr) (fd : FuncData), Meth K C m f ∧ FnOk P w K mg base CX0 k f fd ps sp ∧ Binds K fd ps []
structure Nw (P : Program) (w : World) (K : PySem.W.Frag) (mg : Str → Option Value) (base : Heap) (C : Addr) (k : Nat) (ps : List Str) (sp : Sp) : Prop where
  ex : ∃ (f : Addr) (fd : FuncData), Mk K C f ∧ FnOk P w K mg base CX0 k f fd ps sp ∧ Binds K fd ps []
section
variable {X : Cx} {x m : Str} {p pos apos : Pos} {e o : Expr} {es : List Expr} {ta : TE} {t : TA} {k : Nat} {ps : List Str} {sp : Sp} {C : Addr}
theorem pe_most (h : ∃ t, X.mg "MOST_WAYS" = some (.int 4 t)) (hg : Gl X "MOST_WAYS") : PE X (.Name "MOST_WAYS" pos) (tC (.int 4)) := by
  obtain ⟨t, h⟩ := h
  exact pe_glob hg h ⟨t, rfl⟩
theorem pe_new (F : Nw X.prog X.w X.K X.mg X.base C k ps sp) (hr : Room (k + 1) X.A) (hg : Gl X x) (hm : X.mg x = some (.ref C)) (ha : PA X (e :: es) t) (hdb : (x == ("__debug__" : Str)) = false := by decide) (he : starEach (e :: es) X.env = (false, eval e X.env) :: starEach es X.env := by rfl)
    (hpl : (backTo pos (starEach es X.env)).any (·.1) = false := by rfl) : PE X (.Call (.Name x p) (e :: es) [] pos) (tMake C sp [] E0 t) := by
  obtain ⟨f, fd, M, G, hb⟩ := F.ex
  exact pe_make M G hr hg hm hb .nil pass0 ha hdb he hpl
theorem k_fld (K : PySem.W.Frag) (hK : X.K = K) {f : Str} (he : PE X e ta) (hb : attributeBase e f X.env (eval e X.env) = eval e X.env) : PE X (.Attribute e f pos) (tFld K ta f) := hK ▸ pe_fld he hb
end
section
variable {K : PySem.W.Frag} {mg : Str → Option Value} {B : List Addr} {H0 H H' H1 H2 : Hp} {σ : L2.St} {Γ Γ' : List Sl} {te ta tb tc : TE} {tt tu : TT} {tr : TA} {d d1 d2 d3 : D} {ds es ss : List D} {C : Addr}
theorem de_many (T2 : Ct K mg C) {i : Nat} (h : Γ[i]? = some (.mix C ss)) : DE K B (tFld K (tVar i) "many") Γ (.int 2) := fun H0 σ H E Q q => by
  obtain ⟨v, h1, x, dx, r, rfl, h3, h4⟩ := E.at_ i _ h
  exact ⟨_, h1, x, C, dx, _, .int 2, rfl, (msk_some h3).2, T2.cls, T2.nMany, by simp [List.lookup], q _ H (Same.refl H) (.int 2)⟩
theorem de_rows (T2 : Ct K mg C) {i : Nat} (h : Γ[i]? = some (.mix C ss)) : DE K B (tFld K (tVar i) "rows") Γ (.list ss) := fun H0 σ H E Q q => by
  obtain ⟨v, h1, x, dx, r, rfl, h3, h4⟩ := E.at_ i _ h
  exact ⟨_, h1, x, C, dx, _, r, rfl, (msk_some h3).2, T2.cls, T2.nRows, by
    have : (("rows" : Str) == ("many" : Str)) = false := by decide +kernel
    simp [List.lookup, this], q _ H (Same.refl H) h4⟩
theorem de_isiM (T2 : Ct K mg C) {i : Nat} (h : Γ[i]? = some (.mix C ss)) : DE K B (tCB (rIsi K) (tCons (tVar i) (tCons (tC (.ref C)) tNil))) Γ (.bool true) := fun H0 σ H E Q q => by
  obtain ⟨v, h1, x, dx, r, rfl, h3, h4⟩ := E.at_ i _ h
  refine ⟨_, h1, .ref x, .ref C, _, _, true, rfl, .own C, .base (.ins (msk_some h3).2 T2.cls T2.hc T2.hn T2.ht T2.hm), ?_, q _ H (Same.refl H) (.bl true)⟩
  unfold PySem.W.kitOne
  rw [if_pos (by simp)]
/-- a promise to one that holds a mixer -/
def spM (K : PySem.W.Frag) (C : Addr) (pre : List D → D → Prop) : Sp := fun vs H Q _ => ∃ (B : List Addr) (v : V) (ss : List D) (r : D), vs = [v] ∧ Bnd B H ∧ MixV K (msk B H) C v ss ∧ pre ss r ∧ ∀ v H', Same H H' → Dp K (msk B H') v r → Q v H'
theorem de_callM {pre : List D → D → Prop} {E0 : XK} {i : Nat} (h : Γ[i]? = some (.mix C ss)) (hp : pre ss d) : DE K B (tCall (spM K C pre) [] E0 (tCons (tVar i) tNil)) Γ d := fun H0 σ H E Q q => by
  obtain ⟨v, h1, h2⟩ := E.at_ i _ h
  exact ⟨v, h1, B, v, ss, d, rfl, E.bd, h2, hp, q⟩
theorem de_meth {pre : List D → D → Prop} {E0 : XK} {i : Nat} {m : Str} (h : Γ[i]? = some (.mix C ss)) (hm : List.lookup m [(("many" : Str), V.int 2), (("rows" : Str), V.non)] = none) (hp : pre ss d) : DE K B (tMeth C m (spM K C pre) [] E0 (tVar i) tNil) Γ d := fun H0 σ H E Q q => by
  obtain ⟨v, h1, x, dx, r, rfl, h3, h4⟩ := E.at_ i _ h
  refine ⟨_, h1, x, dx, _, rfl, (msk_some h3).2, ?_, B, .ref x, ss, d, rfl, E.bd, ⟨x, dx, r, rfl, h3, h4⟩, hp, q⟩
  simp only [List.lookup] at hm ⊢
  split at hm <;> simp_all
  split at hm <;> simp_all
/-- a promise to hand back a mixer -/
def spX (K : PySem.W.Frag) (C : Addr) (pre : List D → List D → Prop) : Sp := fun vs H Q _ => ∃ (B : List Addr) (ds : List D) (ss : List D), Bnd B H ∧ DpAll K (msk B H) vs ds ∧ pre ds ss ∧ ∀ v H', Same H H' → MixV K (msk B H') C v ss → Q v H'
def DX (K : PySem.W.Frag) (B : List Addr) (C : Addr) (te : TE) (Γ : List Sl) (ss : List D) : Prop := ∀ (H0 : Hp) (σ : L2.St) (H : Hp), Env K B H0 σ H Γ → ∀ Q : VK, (∀ v H', Same H H' → MixV K (msk B H') C v ss → Q v H') → te σ H Q
theorem dx_call {pre : List D → List D → Prop} {E0 : XK} (h : DA K B tr Γ ds) (hp : pre ds ss) : DX K B C (tCall (spX K C pre) [] E0 tr) Γ ss := fun H0 σ H E Q q =>
  h H0 σ H E _ fun vs H1 e1 hv => ⟨B, ds, ss, E.bd.ex e1, by rw [List.append_nil]; exact hv, hp, fun v H' e2 hd => q v H' (e1.trans e2) hd⟩
variable {Dn : Ends} {tz : TS}
/-- a, b = e1, e2: the second one a mixer -/
theorem q_parX (E : Env K B H0 σ H Γ) {i j : Nat} (h1 : DE K B ta Γ d) (h2 : DX K B C tb Γ ss) (k : ∀ σ' H', Env K B H0 σ' H' ((Γ.set i (.dat d)).set j (.mix C ss)) → tz Dn σ' H') : tSeq (tPar i j (tCons ta (tCons tb tNil))) tz Dn σ H :=
  h1 H0 σ H E _ fun x H1 e1 hx => h2 H0 σ H1 (E.grow e1) _ fun y H2 e2 hy => ⟨x, y, rfl, k _ _ ((((E.grow e1).grow e2).setD i (hx.ex (msk_ex e2))).setM j hy)⟩
/-! ### the making of one -/
def spI (K : PySem.W.Frag) (C : Addr) (pre : List D → List D → Prop) : Sp := fun vs H Q _ => ∃ (B : List Addr) (x dx : Addr) (v : V) (ds ss : List D), vs = [.ref x, .int 2, v] ∧ H x = some (.ins C dx []) ∧ x ∈ B ∧ Bnd B H ∧ Dp K (msk B H) v (.list ds) ∧ pre ds ss ∧
  ∀ r H', (∀ a o, a ≠ x → H a = some o → H' a = some o) → H' x = some (.ins C dx [("many", .int 2), ("rows", r)]) → Dp K (msk B H') r (.list ss) → Q .non H'
theorem dx_make {pre : List D → List D → Prop} {E0 : XK} (h : DA K B tr Γ [.int 2, .list ds]) (hp : pre ds ss) : DX K B C (tMake C (spI K C pre) [] E0 tr) Γ ss := fun H0 σ H E Q q =>
  h H0 σ H E _ fun vs H1 e1 hv => by
    intro x dx nx nd ne
    obtain ⟨a, b, rfl, ha, hb⟩ := dpa_2 hv
    rw [ha.int_inv]
    have nd' : upd H1 dx (HO.own x) x = none := by rw [upd_ne (Ne.symm ne)]; exact nx
    have bd := E.bd.ex e1
    have nB : x ∉ B := bd.nin nx
    have s2 : Same H1 (upd (upd H1 dx (.own x)) x (.ins C dx [])) := (same_new nd).trans (same_new nd')
    have em : Same (msk B H1) (msk (x :: B) (upd (upd H1 dx (.own x)) x (.ins C dx []))) := fun c o q => by
      obtain ⟨n, q⟩ := msk_some q
      have : c ≠ x := ne_of_none q nx
      rw [msk_out (by simp [this, n])]; exact s2 c o q
    refine ⟨x :: B, x, dx, b, ds, ss, rfl, upd_same, List.mem_cons_self, fun c hc => ?_, hb.ex em, hp, fun r H' k hx hr => ⟨rfl, ?_⟩⟩
    · rcases List.mem_cons.mp hc with z | z
      · exact ⟨_, by rw [z]; exact upd_same⟩
      · exact bd.ex s2 c z
    · refine q _ _ (e1.trans fun c o q => k c o (ne_of_none q nx) (s2 c o q)) ⟨x, dx, r, rfl, by rw [msk_out nB]; exact hx, hr.ex (msk_sub fun c hc => List.mem_cons_of_mem _ hc)⟩
end
end WS
namespace WS
open PySem PySem.Spec PyProof.Rows L2
local macro_rules | `(tactic| walk_at "num") => `(tactic| first | assumption | exact mulW (by assumption) (by assumption) (by decide))
local macro_rules | `(tactic| walk_at "de") => `(tactic| first
  | exact de_int | exact de_str | exact de_bl | exact de_non | exact de_var rfl | exact da_nil | exact do_none | assumption
  | ((with_reducible apply da_cons) <;> walk_at "de")
  | ((with_reducible apply de_tup) <;> first | walk_at "de" | (simp; done))
  | ((with_reducible apply de_op) <;> walk_at "de")
  | ((with_reducible show DE _ _ (tCB (rIsi _) (tCons _ (tCons (tC (.ty "int")) tNil))) _ _); apply isi_int; walk_at "de")
  | ((with_reducible show DE _ _ (tCB (rIsi _) (tCons _ (tCons (tC (.ty "bool")) tNil))) _ _); apply isi_bool; walk_at "de")
  | ((with_reducible show DE _ _ (tCB (rIsi _) (tCons _ (tCons (tC (.ty "list")) tNil))) _ _); apply isi_list; walk_at "de")
  | ((with_reducible show DE _ _ (tCB (rIsi _) (tCons _ (tCons (tC (.ty "tuple")) tNil))) _ _); apply isi_tup; walk_at "de")
  | ((with_reducible apply de_cb) <;> walk_at "de")
  | ((with_reducible apply de_neg) <;> walk_at "de")
  | ((with_reducible apply dt_test) <;> walk_at "de")
  | ((with_reducible apply dt_B) <;> walk_at "de")
  | ((with_reducible apply dt_not) <;> walk_at "de")
  | ((with_reducible apply de_notV) <;> walk_at "de")
  | ((with_reducible apply do_some) <;> walk_at "de")
  | exact ca_lenL | exact ca_lenT | exact ca_abs | exact ca_intI | exact ca_intB | exact ca_min2
  | exact od_i0 | exact od_b0
  | exact od_ixL rfl | exact od_ixT rfl
  | exact od_ixP0 (by assumption) | exact od_ixP1 (by assumption)
  | (refine od_i ?_; walk_at "num"))

/-- a step, as data; as it is kept -/
def b2n (b : Bool) : Int := if b = true then 1 else 0
def stD : Stp → D
  | .lf true w => .tuple [.str "lift", .int 1, .list [.int w, .int 0], .int 0]
  | .lf false w => .tuple [.str "lift", .int 0, .list [.int 0, .int w], .int 0]
  | .tn b => .tuple [.str "turn", .int (b2n b)]
  | .sw => .tuple [.str "swap", .int 0, .int 1]
def stC : Stp → D
  | .lf true w => .tuple [.str "lift", .int 1, .tuple [.int w, .int 0], .int 0]
  | .lf false w => .tuple [.str "lift", .int 0, .tuple [.int 0, .int w], .int 0]
  | .tn b => .tuple [.str "turn", .int (b2n b)]
  | .sw => .tuple [.str "swap", .int 0, .int 1]
theorem sh_lift : SeqAt.shaped (.str "lift") = true := by decide +kernel
theorem sh_turn : SeqAt.shaped (.str "turn") = true := by decide +kernel
theorem sh_swap : SeqAt.shaped (.str "swap") = true := by decide +kernel
theorem ll : PyData.eqv (.str "lift") (.str "lift") = true := by decide +kernel
theorem tl : PyData.eqv (.str "turn") (.str "lift") = false := by decide +kernel
theorem sl : PyData.eqv (.str "swap") (.str "lift") = false := by decide +kernel
theorem tt : PyData.eqv (.str "turn") (.str "turn") = true := by decide +kernel
theorem st : PyData.eqv (.str "swap") (.str "turn") = false := by decide +kernel
theorem i4 : PyData.eqv (.int 4) (.int 4) = true := by decide +kernel
section
variable {P : Program} {w : World} {K : PySem.W.Frag} {mg : Str → Option Value} {base : Heap} {f : Addr} {fd : FuncData}
theorem od_notIn {B : List Addr} {x : Str} {xs : List Str} : OpD K B (rIn K true) (.str x) (.tuple (xs.map .str)) (.bool (!inV (.str x) (xs.map V.str))) := fun H a b Q _ ha hb q => by
  obtain ⟨p, vs, e1, e2, e3⟩ := hb.tup_inv
  have hst : ∀ {xs : List Str} {vs : List V}, DpAll K (msk B H) vs (xs.map PyData.str) → vs = xs.map V.str := by
    intro xs
    induction xs with
    | nil => intro vs h; cases h; rfl
    | cons y ys ih =>
      intro vs h
      cases h with
      | cons r t => rw [r.str_inv, ih t]; rfl
  rw [hst e3] at e2
  rw [ha.str_inv]
  refine ⟨p, xs.map V.str, e1, .inr (sqT_ex msk_le e2), rfl, ?_, q _ H (Same.refl H) (.bl _)⟩
  rw [List.all_map]
  exact List.all_eq_true.mpr fun _ _ => rfl
theorem at0 {x : D} {l : List D} : atI (x :: l) 0 = some x := by
  unfold atI ixN
  rw [if_pos (by omega), if_pos (by rw [List.length_cons]; omega)]
  rfl
theorem in_turn : inV (.str "turn") [V.str "turn", V.str "swap"] = true := by decide +kernel
theorem in_swap : inV (.str "swap") [V.str "turn", V.str "swap"] = true := by decide +kernel
theorem cut1 (x : D) (l : List D) : cutD (x :: l) (some 1) none = l := by
  unfold cutD
  rw [show HT.sIx (x :: l).length 0 (some 1) = min 1 (x :: l).length from HT.sIx_nat (x :: l).length 0 1, HT.sIx_none]
  rw [List.length_cons, show min 1 (l.length + 1) = 1 by omega]
  exact List.take_length
abbrev s_is_lift : Stmt := topS 16
abbrev n_is_lift : List Str := ["value", "wide"]
theorem sc_is_lift : FnScope n_is_lift ["value", "wide"] (defScope s_is_lift) := ⟨rfl, rfl, rfl, by decide +kernel, rfl, by decide +kernel, by decide +kernel⟩
def pre_is_lift (ds : List D) (r : D) : Prop := ∃ s : Stp, ds = [stD s, .int 2] ∧ r = .bool s.isLift
theorem ok_is_lift (T : Bt mg) (F : Fun K "is_lift" "is_lift" s_is_lift f fd) (F_is_between : Fn P w K mg base "is_between" 2 ["value", "low", "high"] (spD K pre_is_between)) (F_are_wholes : Fn P w K mg base "are_wholes" 2 ["value"] (spD K pre_are_wholes)) : FnOk P w K mg base CX0 3 f fd ["value", "wide"] (spD K pre_is_lift) := by
  refine fn_ok F sc_is_lift (n := 0) rfl (fun ds r h => ?_) (fun cdv A outer s H vs Q E B ds r hr hp E0 q => ?_)
  · obtain ⟨_, rfl, _⟩ := h; rfl
  obtain ⟨s, rfl, rfl⟩ := hp
  refine ⟨_, (pss_cons (ps_if (PW.pt (pw_or (pt_not (pt_val (pe_callB (k_isi K rfl) (by rfl) T.b_isinstance boot_isinstance (pa_cons (pv 0) (pa_cons (pe_bltn (v := .ty "tuple") (by rfl) T.b_tuple boot_tuple rfl) pa_nil))))) (pw_or (pt_cmpR (k_ne K rfl hr.units) (pe_callB (k_len K rfl) (by rfl) T.b_len boot_len (pa_cons (pv 0) pa_nil)) pe_int (nomark _)) (pw_or1 (pt_cmpR (k_ne K rfl hr.units) (pe_ix (k_ix K rfl) (pv 0) pe_int (fun _ _ => rfl)) pe_str (nomark _)))))) (pss_one (ps_ret pe_bl)) pss_nil)
      (pss_cons (ps_if (PW.pt (pw_or (pt_not (pt_val (pe_fn F_is_between (hr.mono (by decide)) (by rfl) (pa_cons (pe_ix (k_ix K rfl) (pv 0) pe_int (fun _ _ => rfl)) (pa_cons pe_int (pa_cons (pe_op op_sub (pv 1) pe_int) pa_nil)))))) (pw_or1 (pt_not (pt_val (pe_fn F_is_between (hr.mono (by decide)) (by rfl) (pa_cons (pe_ix (k_ix K rfl) (pv 0) pe_int (fun _ _ => rfl)) (pa_cons pe_int (pa_cons pe_non pa_nil))))))))) (pss_one (ps_ret pe_bl)) pss_nil)
      (pss_one (ps_ret (pe_and (pe_fn F_are_wholes (hr.mono (by decide)) (by rfl) (pa_cons (pe_ix (k_ix K rfl) (pv 0) pe_int (fun _ _ => rfl)) pa_nil)) (pe_and (pe_cmpR (k_eq K rfl hr.units) (pe_callB (k_len K rfl) (by rfl) T.b_len boot_len (pa_cons (pe_ix (k_ix K rfl) (pv 0) pe_int (fun _ _ => rfl)) pa_nil)) (pv 1) (nomark _)) (pe_one (pe_cmpR (k_eq K rfl hr.units) (pe_ix (k_ix K rfl) (pe_ix (k_ix K rfl) (pv 0) pe_int (fun _ _ => rfl)) (pe_ix (k_ix K rfl) (pv 0) pe_int (fun _ _ => rfl)) (fun _ _ => rfl)) pe_int (nomark _))))))))), ?_⟩
  cases s with
  | lf b k =>
    obtain ⟨i, ns, hi, hn, ha, e⟩ : ∃ (i : Int) (ns : List Int), (decide (0 ≤ i) && decide (i ≤ 1)) = true ∧ ns.length = 2 ∧ atI (ns.map PyData.int) i = some (.int 0) ∧ stD (.lf b k) = .tuple [.str "lift", .int i, .list (ns.map .int), .int 0] := by
      cases b
      · exact ⟨0, [0, k], rfl, rfl, rfl, rfl⟩
      · exact ⟨1, [k, 0], rfl, rfl, rfl, rfl⟩
    rw [e] at E0
    refine q_ifN E0 ?_ fun H1 E1 => q_ifN E1 ?_ fun H2 E2 => ?_
    · refine dt_or (a := false) (b := false) (dt_not (b := true) (dt_B (isi_tup (de_var rfl)))) fun _ => dt_or (a := false) (b := false) ?_ fun _ => ?_
      · exact (dt_test (de_op (de_cb (ds := [.tuple [.str "lift", .int i, .list (ns.map .int), .int 0]]) (by walk_at "de") ca_lenT) de_int (od_ne (d2 := .int 4) rfl rfl))).is rfl
      · exact (dt_test (de_op (de_op (de_var rfl) de_int (od_ixT rfl)) de_str (od_ne sh_lift sh_lift))).is (by rw [ll]; rfl)
    · refine dt_or (a := false) (b := false) (dt_not (b := true) (dt_B (de_call (ds := [.int i, .int 0, .int 1]) ?_ (.inl ⟨i, 0, 1, rfl, by rw [hi]⟩)))) fun _ => (dt_not (b := true) (dt_B (de_call (ds := [.int 0, .int 0, .none]) ?_ (.inr ⟨0, 0, rfl, rfl⟩))))
      · exact da_cons (de_op (de_var rfl) de_int (od_ixT rfl)) (da_cons de_int (da_cons (de_op (de_var rfl) de_int od_i0) da_nil))
      · exact da_cons (de_op (de_var rfl) de_int (od_ixT rfl)) (da_cons de_int (da_cons de_non da_nil))
    · have e2 : (ns.map PyData.int).length = 2 := by rw [List.length_map]; exact hn
      refine s_ret E2 (d := .bool true) (de_andV (a := true) (b := true) (de_call (ds := [.list (ns.map .int)]) (da_cons (de_op (de_var rfl) de_int (od_ixT rfl)) da_nil) ⟨ns, by omega, rfl, rfl⟩) fun _ => de_andV (a := true) (b := true) ?_ fun _ => ?_) ?_
      · exact (de_op (de_cb (ds := [.list (ns.map .int)]) (da_cons (de_op (de_var rfl) de_int (od_ixT rfl)) da_nil) ca_lenL) (de_var rfl) (od_eq (d2 := .int 2) rfl rfl)).is (by rw [e2]; rfl)
      · exact (de_op (de_op (de_op (de_var rfl) de_int (od_ixT rfl)) (de_op (de_var rfl) de_int (od_ixT rfl)) (od_ixL ha)) de_int (od_eq (d1 := .int 0) (d2 := .int 0) rfl rfl)).is rfl
      · exact fun v H' E3 hv => q v H' E3.ex hv
  | tn b =>
    refine q_if E0 (b := true) ?_ (fun _ H1 E1 => ?_) (fun z => nomatch z)
    · refine dt_or (a := false) (b := true) (dt_not (b := true) (dt_B (isi_tup (de_var rfl)))) fun _ => dt_orT ?_
      exact (dt_test (de_op (de_cb (ds := [stD (.tn b)]) (by walk_at "de") ca_lenT) de_int (od_ne (d2 := .int 4) rfl rfl))).is rfl
    · refine s_ret E1 (d := .bool false) de_bl ?_
      exact fun v H' E3 hv => q v H' E3.ex hv
  | sw =>
    refine q_if E0 (b := true) ?_ (fun _ H1 E1 => ?_) (fun z => nomatch z)
    · refine dt_or (a := false) (b := true) (dt_not (b := true) (dt_B (isi_tup (de_var rfl)))) fun _ => dt_orT ?_
      exact (dt_test (de_op (de_cb (ds := [stD .sw]) (by walk_at "de") ca_lenT) de_int (od_ne (d2 := .int 4) rfl rfl))).is rfl
    · refine s_ret E1 (d := .bool false) de_bl ?_
      exact fun v H' E3 hv => q v H' E3.ex hv
abbrev s_is_step : Stmt := topS 17
abbrev n_is_step : List Str := ["value", "wide", "at"]
theorem sc_is_step : FnScope n_is_step ["value", "wide"] (defScope s_is_step) := ⟨rfl, rfl, rfl, by decide +kernel, rfl, by decide +kernel, by decide +kernel⟩
def pre_is_step (ds : List D) (r : D) : Prop := ∃ s : Stp, ds = [stD s, .int 2] ∧ r = .bool true
theorem ok_is_step (T : Bt mg) (F : Fun K "is_step" "is_step" s_is_step f fd) (F_is_between : Fn P w K mg base "is_between" 2 ["value", "low", "high"] (spD K pre_is_between)) (F_is_lift : Fn P w K mg base "is_lift" 3 ["value", "wide"] (spD K pre_is_lift)) : FnOk P w K mg base CX0 4 f fd ["value", "wide"] (spD K pre_is_step) := by
  refine fn_ok F sc_is_step (n := 1) rfl (fun ds r h => ?_) (fun cdv A outer s H vs Q E B ds r hr hp E0 q => ?_)
  · obtain ⟨_, rfl, _⟩ := h; rfl
  obtain ⟨s, rfl, rfl⟩ := hp
  refine ⟨_, (pss_cons (ps_if (pt_val (pe_fn F_is_lift (hr.mono (by decide)) (by rfl) (pa_cons (pv 0) (pa_cons (pv 1) pa_nil)))) (pss_one (ps_ret pe_bl)) pss_nil)
      (pss_cons (ps_if (PW.pt (pw_or (pt_not (pt_val (pe_callB (k_isi K rfl) (by rfl) T.b_isinstance boot_isinstance (pa_cons (pv 0) (pa_cons (pe_bltn (v := .ty "tuple") (by rfl) T.b_tuple boot_tuple rfl) pa_nil))))) (pw_or (pt_cmpR op_lt (pe_callB (k_len K rfl) (by rfl) T.b_len boot_len (pa_cons (pv 0) pa_nil)) pe_int (nomark _)) (pw_or1 (pt_cmpR (k_notIn K rfl) (pe_ix (k_ix K rfl) (pv 0) pe_int (fun _ _ => rfl)) (pe_tup (pa_cons pe_str (pa_cons pe_str pa_nil))) (by rfl)))))) (pss_one (ps_ret pe_bl)) pss_nil)
      (pss_cons (ps_if (pt_cmpR (k_ne K rfl hr.units) (pe_lc (own := [("at", 2)]) rfl sc_is_step.nd (k_pt K rfl (pe_slice (k_slT K rfl) (pv 0) (po_some pe_int) po_none)) (blkOk_by (by kernel_rfl)) (fun _ _ _ _ _ => pg_name (i := 2) sc_is_step.nd rfl (by first | exact Or.inl rfl | exact Or.inr rfl)) (fun _ _ _ _ _ => (pts_one (pt_not (pt_val (pe_fn F_is_between (hr.mono (by decide)) (by rfl) (pa_cons (pv 2) (pa_cons pe_int (pa_cons (pe_op op_sub (pv 1) pe_int) pa_nil)))))))) (fun _ _ _ _ _ => (pv 2))) (pe_lst pa_nil) (nomark _)) (pss_one (ps_ret pe_bl)) pss_nil)
      (pss_cons (ps_if (pt_cmpR (k_eq K rfl hr.units) (pe_ix (k_ix K rfl) (pv 0) pe_int (fun _ _ => rfl)) pe_str (nomark _)) (pss_one (ps_ret (pe_cmpR (k_eq K rfl hr.units) (pe_callB (k_len K rfl) (by rfl) T.b_len boot_len (pa_cons (pv 0) pa_nil)) pe_int (nomark _)))) pss_nil)
      (pss_one (ps_ret (pe_and (pe_cmpR (k_eq K rfl hr.units) (pe_callB (k_len K rfl) (by rfl) T.b_len boot_len (pa_cons (pv 0) pa_nil)) pe_int (nomark _)) (pe_one (pe_cmpR (k_ne K rfl hr.units) (pe_ix (k_ix K rfl) (pv 0) pe_int (fun _ _ => rfl)) (pe_ix (k_ix K rfl) (pv 0) pe_int (fun _ _ => rfl)) (nomark _)))))))))), ?_⟩
  refine q_when E0 (b := s.isLift) (dt_B (de_call (ds := [stD s, .int 2]) (by walk_at "de") ⟨s, rfl, rfl⟩)) (fun _ H1 E1 => ?_) (fun hb H1 E1 => ?_)
  · refine s_ret E1 (d := .bool true) de_bl ?_
    exact fun v H' E3 hv => q v H' E3.ex hv
  obtain ⟨nm, ns, e, hin, sh, hns, hl, htw⟩ : ∃ (nm : Str) (ns : List Int), stD s = .tuple (.str nm :: ns.map .int) ∧ inV (.str nm) [V.str "turn", V.str "swap"] = true ∧ SeqAt.shaped (.str nm) = true ∧ (∀ n ∈ ns, (decide (0 ≤ n) && decide (n ≤ 1)) = true) ∧ ns.length ≤ 2 ∧
      ((PyData.eqv (.str nm) (.str "turn") = true ∧ ns.length = 1) ∨ (PyData.eqv (.str nm) (.str "turn") = false ∧ ns = [0, 1])) := by
    cases s with
    | lf b k => cases hb
    | tn b => exact ⟨"turn", [b2n b], rfl, in_turn, sh_turn, by intro n hn; rw [List.mem_singleton.mp hn]; cases b <;> rfl, by simp, .inl ⟨tt, rfl⟩⟩
    | sw => exact ⟨"swap", [0, 1], rfl, in_swap, sh_swap, by intro n hn; simp only [List.mem_cons, List.not_mem_nil, or_false] at hn; rcases hn with rfl | rfl <;> rfl, by simp, .inr ⟨st, rfl⟩⟩
  rw [e] at E1
  refine q_ifN E1 ?_ fun H2 E2 => q_ifN E2 ?_ fun H3 E3 => ?_
  · refine dt_or (a := false) (b := false) (dt_not (b := true) (dt_B (isi_tup (de_var rfl)))) fun _ => dt_or (a := false) (b := false) ?_ fun _ => ?_
    · refine (dt_test (de_op (de_cb (ds := [.tuple (.str nm :: ns.map .int)]) (by walk_at "de") ca_lenT) de_int od_b0)).is ?_
      rw [List.length_cons, List.length_map]
      rcases htw with ⟨_, h⟩ | ⟨_, h⟩
      · rw [h]; decide
      · rw [h]; decide
    · exact (dt_test (de_op (de_op (de_var rfl) de_int (od_ixT at0)) (de_tup (da_cons de_str (da_cons de_str da_nil)) (by simp)) (od_notIn (xs := ["turn", "swap"])))).is (by rw [show (["turn", "swap"] : List Str).map V.str = [V.str "turn", V.str "swap"] from rfl, hin]; rfl)
  · refine (dt_test (de_op (DL.de (DL.is (dl_lcF (xs := ns) (enc := PyData.int) _ (fun _ => false) (fun i => .int i) (DI.dw (di_tup (DE.is (de_slT (ds := .str nm :: ns.map .int) (lo := some 1) (hi := none) (de_var rfl) (do_some de_int) do_none ?_) (by rw [cut1])))) (by omega) fun l x hx => ⟨dg_name (by simp), ?_, fun z => nomatch z⟩) (by simp))) (DL.de (dl_lst da_nil (by simp))) (od_ne shaped_nil shaped_nil))).is (by decide +kernel)
    · rw [show HT.sIx (PyData.str nm :: ns.map .int).length 0 (some 1) = min 1 (PyData.str nm :: ns.map .int).length from HT.sIx_nat _ 0 1, List.length_cons]
      omega
    · exact dt_not (b := true) (dt_B (de_call (ds := [.int x, .int 0, .int 1]) (da_cons (de_var rfl) (da_cons de_int (da_cons (de_op (de_var rfl) de_int od_i0) da_nil))) (.inl ⟨x, 0, 1, rfl, by rw [hns x hx]⟩)))
  · rcases htw with ⟨h1, h2⟩ | ⟨h1, h2⟩
    · refine q_if E3 (b := true) ?_ (fun _ H4 E4 => ?_) (fun z => nomatch z)
      · exact (dt_test (de_op (de_op (de_var rfl) de_int (od_ixT at0)) de_str (od_eq sh sh_turn))).is h1
      · refine s_ret E4 (d := .bool true) ((de_op (de_cb (ds := [.tuple (.str nm :: ns.map .int)]) (by walk_at "de") ca_lenT) de_int (od_eq (d2 := .int 2) rfl rfl)).is ?_) ?_
        · rw [List.length_cons, List.length_map, h2]; rfl
        · exact fun v H' E3 hv => q v H' E3.ex hv
    · refine q_ifN E3 ?_ fun H4 E4 => ?_
      · exact (dt_test (de_op (de_op (de_var rfl) de_int (od_ixT at0)) de_str (od_eq sh sh_turn))).is h1
      · subst h2
        refine s_ret E4 (d := .bool true) (de_andV (a := true) (b := true) ((de_op (de_cb (ds := [.tuple [.str nm, .int 0, .int 1]]) (by walk_at "de") ca_lenT) de_int (od_eq (d2 := .int 3) rfl rfl)).is rfl) fun _ => ?_) ?_
        · exact (de_op (de_op (de_var rfl) de_int (od_ixT rfl)) (de_op (de_var rfl) de_int (od_ixT rfl)) (od_ne (d1 := .int 0) (d2 := .int 1) rfl rfl)).is rfl
        · exact fun v H' E3 hv => q v H' E3.ex hv
abbrev s_closed : Stmt := topS 18
abbrev n_closed : List Str := ["step"]
theorem sc_closed : FnScope n_closed ["step"] (defScope s_closed) := ⟨rfl, rfl, rfl, by decide +kernel, rfl, by decide +kernel, by decide +kernel⟩
def pre_closed (ds : List D) (r : D) : Prop := ∃ s : Stp, ds = [stD s] ∧ r = stC s
theorem ok_closed (T : Bt mg) (F : Fun K "closed" "closed" s_closed f fd) : FnOk P w K mg base CX0 1 f fd ["step"] (spD K pre_closed) := by
  refine fn_ok F sc_closed (n := 0) rfl (fun ds r h => ?_) (fun cdv A outer s H vs Q E B ds r hr hp E0 q => ?_)
  · obtain ⟨_, rfl, _⟩ := h; rfl
  obtain ⟨s, rfl, rfl⟩ := hp
  refine ⟨_, (pss_one (ps_ret (pe_ifExp (pt_cmpR (k_eq K rfl hr.units) (pe_ix (k_ix K rfl) (pv 0) pe_int (fun _ _ => rfl)) pe_str (nomark _)) (pe_tup (pa_cons (pe_ix (k_ix K rfl) (pv 0) pe_int (fun _ _ => rfl)) (pa_cons (pe_ix (k_ix K rfl) (pv 0) pe_int (fun _ _ => rfl)) (pa_cons (pe_callTy (k_tuple K rfl) (by rfl) T.b_tuple boot_tuple (pa_cons (pe_ix (k_ix K rfl) (pv 0) pe_int (fun _ _ => rfl)) pa_nil)) (pa_cons (pe_ix (k_ix K rfl) (pv 0) pe_int (fun _ _ => rfl)) pa_nil))))) (pv 0)))), ?_⟩
  refine s_ret E0 (d := stC s) ?_ fun v H' E1 hv => q v H' E1.ex hv
  rcases s with (_ | _) | b | _
  · refine de_if (b := true) ((dt_test (de_op (de_op (de_var rfl) de_int (od_ixT rfl)) de_str (od_eq sh_lift sh_lift))).is ll) (fun _ => ?_) (fun z => nomatch z)
    exact de_tup (da_cons (de_op (de_var rfl) de_int (od_ixT rfl)) (da_cons (de_op (de_var rfl) de_int (od_ixT rfl)) (da_cons (de_cb (da_cons (de_op (de_var rfl) de_int (od_ixT rfl)) da_nil) ca_tupleL) (da_cons (de_op (de_var rfl) de_int (od_ixT rfl)) da_nil)))) (by simp)
  · refine de_if (b := true) ((dt_test (de_op (de_op (de_var rfl) de_int (od_ixT rfl)) de_str (od_eq sh_lift sh_lift))).is ll) (fun _ => ?_) (fun z => nomatch z)
    exact de_tup (da_cons (de_op (de_var rfl) de_int (od_ixT rfl)) (da_cons (de_op (de_var rfl) de_int (od_ixT rfl)) (da_cons (de_cb (da_cons (de_op (de_var rfl) de_int (od_ixT rfl)) da_nil) ca_tupleL) (da_cons (de_op (de_var rfl) de_int (od_ixT rfl)) da_nil)))) (by simp)
  · exact de_if (b := false) ((dt_test (de_op (de_op (de_var rfl) de_int (od_ixT rfl)) de_str (od_eq sh_turn sh_lift))).is tl) (fun z => nomatch z) (fun _ => de_var rfl)
  · exact de_if (b := false) ((dt_test (de_op (de_op (de_var rfl) de_int (od_ixT rfl)) de_str (od_eq sh_swap sh_lift))).is sl) (fun z => nomatch z) (fun _ => de_var rfl)
abbrev s_opened : Stmt := topS 19
abbrev n_opened : List Str := ["row"]
theorem sc_opened : FnScope n_opened ["row"] (defScope s_opened) := ⟨rfl, rfl, rfl, by decide +kernel, rfl, by decide +kernel, by decide +kernel⟩
def pre_opened (ds : List D) (r : D) : Prop := ∃ s : Stp, ds = [stC s] ∧ r = stD s
theorem ok_opened (T : Bt mg) (F : Fun K "opened" "opened" s_opened f fd) : FnOk P w K mg base CX0 1 f fd ["row"] (spD K pre_opened) := by
  refine fn_ok F sc_opened (n := 0) rfl (fun ds r h => ?_) (fun cdv A outer s H vs Q E B ds r hr hp E0 q => ?_)
  · obtain ⟨_, rfl, _⟩ := h; rfl
  obtain ⟨s, rfl, rfl⟩ := hp
  refine ⟨_, (pss_one (ps_ret (pe_ifExp (pt_cmpR (k_eq K rfl hr.units) (pe_ix (k_ix K rfl) (pv 0) pe_int (fun _ _ => rfl)) pe_str (nomark _)) (pe_tup (pa_cons (pe_ix (k_ix K rfl) (pv 0) pe_int (fun _ _ => rfl)) (pa_cons (pe_ix (k_ix K rfl) (pv 0) pe_int (fun _ _ => rfl)) (pa_cons (pe_callTy (k_list K rfl) (by rfl) T.b_list boot_list (pa_cons (pe_ix (k_ix K rfl) (pv 0) pe_int (fun _ _ => rfl)) pa_nil)) (pa_cons (pe_ix (k_ix K rfl) (pv 0) pe_int (fun _ _ => rfl)) pa_nil))))) (pv 0)))), ?_⟩
  refine s_ret E0 (d := stD s) ?_ fun v H' E1 hv => q v H' E1.ex hv
  rcases s with (_ | _) | b | _
  · refine de_if (b := true) ((dt_test (de_op (de_op (de_var rfl) de_int (od_ixT rfl)) de_str (od_eq sh_lift sh_lift))).is ll) (fun _ => ?_) (fun z => nomatch z)
    exact de_tup (da_cons (de_op (de_var rfl) de_int (od_ixT rfl)) (da_cons (de_op (de_var rfl) de_int (od_ixT rfl)) (da_cons (DL.de (dl_listT (de_op (de_var rfl) de_int (od_ixT rfl)))) (da_cons (de_op (de_var rfl) de_int (od_ixT rfl)) da_nil)))) (by simp)
  · refine de_if (b := true) ((dt_test (de_op (de_op (de_var rfl) de_int (od_ixT rfl)) de_str (od_eq sh_lift sh_lift))).is ll) (fun _ => ?_) (fun z => nomatch z)
    exact de_tup (da_cons (de_op (de_var rfl) de_int (od_ixT rfl)) (da_cons (de_op (de_var rfl) de_int (od_ixT rfl)) (da_cons (DL.de (dl_listT (de_op (de_var rfl) de_int (od_ixT rfl)))) (da_cons (de_op (de_var rfl) de_int (od_ixT rfl)) da_nil)))) (by simp)
  · exact de_if (b := false) ((dt_test (de_op (de_op (de_var rfl) de_int (od_ixT rfl)) de_str (od_eq sh_turn sh_lift))).is tl) (fun z => nomatch z) (fun _ => de_var rfl)
  · exact de_if (b := false) ((dt_test (de_op (de_op (de_var rfl) de_int (od_ixT rfl)) de_str (od_eq sh_swap sh_lift))).is sl) (fun z => nomatch z) (fun _ => de_var rfl)
end
end WS
/-! zip(xs, ys, strict=True) of a tuple and a list of one length. -/
namespace PySem
namespace ZTl
open Sem (wp)
open ZStr
theorem _root_.PySem.ZStr.Off.titer {C : List Addr} {h h' : Heap} {i l : Addr} {k : Nat} (a : Off C h h') (hi : i ∉ C) (x : h.IsTupleIter i l k) : h'.IsTupleIter i l k := x.at fun o e => a i o hi e
theorem _root_.PySem.ZStr.Off.tup {C : List Addr} {h h' : Heap} {l : Addr} {xs : Array Value} (a : Off C h h') (hl : l ∉ C) (x : h.IsTuple l xs) : h'.IsTuple l xs := x.at fun o e => a l o hl e
/-- a strict zip that stands between two turns -/
structure ZT (h : Heap) (z TI TO i1 i2 l1 l2 : Addr) (k : Nat) (f0 : Value) : Prop where
  obj : h.get? z = some (zRec f0 TI TO)
  src : IsPair h TI (.ref i1) (.ref i2)
  out : ∃ a b, IsPair h TO a b
  it1 : h.IsTupleIter i1 l1 k
  it2 : h.IsListIter i2 l2 k
section
variable {prog : Program} {w : World} {A : Around} {E : Value → Shared → Prop} {s : Shared}
theorem draw_someT {it l : Addr} {k : Nat} {xs : Array Value} {x : Value} {Q : Option Value → Shared → Prop} (hi : s.heap.IsTupleIter it l k) (hl : s.heap.IsTuple l xs) (hx : xs[k]? = some x)
    (q : ∀ h', h'.IsTupleIter it l (k + 1) → Heap.SameBut it s.heap h' → Q (some x) { s with heap := h' }) : wpAny (model prog w) A (Builtin.SmallTypes.nextOrEnd (.ref it)) Q E s := by
  unfold Builtin.SmallTypes.nextOrEnd
  exact wpAny_bind (wpAny_attempt (RZ.nextOf_tuple_item hi hl hx fun h' u v => wpAny_pure (q h' u v)))
theorem draw_noneT {it l : Addr} {k : Nat} {xs : Array Value} {Q : Option Value → Shared → Prop} (hh : A.handled = none) (hi : s.heap.IsTupleIter it l k) (hl : s.heap.IsTuple l xs) (hx : xs[k]? = none)
    (q : ∀ h', Heap.ExtBut it s.heap h' → Q none { s with heap := h' }) : wpAny (model prog w) A (Builtin.SmallTypes.nextOrEnd (.ref it)) Q E s := by
  unfold Builtin.SmallTypes.nextOrEnd
  refine wpAny_bind (wpAny_attempt (RZ.nextOf_tuple_end hh hi hl hx fun h' e u v => ?_))
  obtain ⟨o, v1, v2⟩ := v
  exact wpAny_bind (wpAny_isInstance (T := "StopIteration") (b := true) ⟨o, v1, v2⟩ isSubtype_stop (wpAny_pure (q h' u)))
/-- a turn with an item on both sides -/
theorem turn {z TI TO i1 i2 l1 l2 : Addr} {k : Nat} {xs ys : Array Value} {x y : Value} {Q : Value → Shared → Prop} (P : ZStr.Apart z TI TO i1 i2 l1 l2) (Z : ZT s.heap z TI TO i1 i2 l1 l2 k .none)
    (u1 : s.heap.IsTuple l1 xs) (u2 : s.heap.IsList l2 ys) (hx : xs[k]? = some x) (hy : ys[k]? = some y)
    (q : ∀ h', ZT h' z TI TO i1 i2 l1 l2 (k + 1) (rawInt s.heap.objs.size) → IsPair h' s.heap.objs.size x y → Off [z, TO, i1, i2] s.heap h' → Q (.ref s.heap.objs.size) { s with heap := h' }) :
    wpAny (model prog w) A (Builtin.«zip.__next__» ⟨[.ref z], []⟩) (fun fin s' => ∃ v, fin = .done (.ret v) ∧ Q v s') E s := by
  obtain ⟨Zo, Zs, ⟨a, b, Zt⟩, Z1, Z2⟩ := Z
  have nd := P.nd
  simp only [List.nodup_cons, List.mem_cons, List.not_mem_nil, not_or, or_false, List.nodup_nil, and_true, not_false_eq_true] at nd
  obtain ⟨⟨n1, n2, n3, n4⟩, ⟨n5, n6, n7⟩, ⟨n8, n9⟩, n10⟩ := nd
  show wpAny _ _ (field (.ref z) 2 >>= _) _ _ _
  refine wpAny_bind (wpAny_field Zo rfl (x := .bool true) rfl ?_)
  show wpAny _ _ (field (.ref z) 3 >>= _) _ _ _
  refine wpAny_bind (wpAny_field Zo rfl (x := .ref TI) rfl (wpAny_bind (wpAny_seqItems Zs rfl ?_)))
  show wpAny _ _ (Builtin.SmallTypes.ownedTupleIsFree (.ref z) >>= _) _ _ _
  unfold Builtin.SmallTypes.ownedTupleIsFree
  refine wpAny_bind (wpAny_bind (wpAny_field Zo rfl (x := .none) rfl (wpAny_pure ?_)))
  simp only [if_true]
  refine wpAny_bind (wpAny_rule (wpAny_bind (wpAny_field Zo rfl (x := .ref TO) rfl (wpAny_bind (wpAny_setField_rec Zo (by simp) fun g1 o1 c1 => ?_)))))
  have o1' : g1.get? z = some (zRec .ellipsis TI TO) := o1
  have f1 : Off [z] s.heap g1 := off_but (by simp) c1
  refine wpAny_bind ?_
  simp only [List.zipIdx_cons, List.zipIdx_nil, List.forIn_cons, List.forIn_nil]
  -- the first list's item
  refine wpAny_bind (wpAny_bind (wpAny_onRaise ?_))
  show wpAny _ _ (Builtin.SmallTypes.nextOrEnd (.ref i1)) _ _ _
  have v1 := P.o1
  have v2 := P.o2
  simp only [List.mem_cons, List.not_mem_nil, not_or, or_false] at v1 v2
  refine draw_someT (f1.titer (by simp; exact Ne.symm n3) Z1) (f1.tup (by simp; exact v1.1) u1) hx fun g2 w1 c2 => ?_
  have f2 : Off [z, i1] s.heap g2 := Off.then (fun c o n e => f1 c o (by simp at n ⊢; exact n.1) e) (off_but (by simp) c2)
  have p2 : IsPair g2 TO a b := f2 _ _ (by simp; exact ⟨Ne.symm n2, n8⟩) Zt
  refine wpAny_bind (wpAny_seqItems p2 rfl (wpAny_bind (wpAny_updateSeq_pair p2 fun g3 p3 c3 => wpAny_bind (wpAny_letGo (wpAny_pure ?_)))))
  have p3' : IsPair g3 TO x b := p3
  have f3 : Off [z, i1, TO] s.heap g3 := Off.then (fun c o n e => f2 c o (by simp at n ⊢; exact ⟨n.1, n.2.1⟩) e) (off_but (by simp) c3)
  -- the second list's item
  refine wpAny_bind (wpAny_bind (wpAny_onRaise ?_))
  show wpAny _ _ (Builtin.SmallTypes.nextOrEnd (.ref i2)) _ _ _
  refine draw_some (f3.iter (by simp; exact ⟨Ne.symm n4, Ne.symm n10, Ne.symm n9⟩) Z2) (f3.list (by simp; exact ⟨v2.1, v2.2.2.1, v2.2.1⟩) u2) hy fun g4 w2 c4 => ?_
  have p4 : IsPair g4 TO x b := off_but (C := [i2]) (by simp) c4 _ _ (by simp; exact n9) p3'
  refine wpAny_bind (wpAny_seqItems p4 rfl (wpAny_bind (wpAny_updateSeq_pair p4 fun g5 p5 c5 => wpAny_bind (wpAny_letGo (wpAny_pure (wpAny_pure ?_))))))
  have p5' : IsPair g5 TO x y := p5
  have f45 : Off [i2, TO] g3 g5 := Off.then (off_but (by simp) c4) (off_but (by simp) c5)
  have f5 : Off [z, TO, i1, i2] s.heap g5 := Off.then (fun c o n e => f3 c o (by simp at n ⊢; exact ⟨n.1, n.2.2.1, n.2.1⟩) e) (fun c o n e => f45 c o (by simp at n ⊢; exact ⟨n.2.2.2, n.2.1⟩) e)
  have z5 : g5.get? z = some (zRec .ellipsis TI TO) := f45 _ _ (by simp; exact ⟨n4, n2⟩) (off_but (C := [i1, TO]) (by simp) c3 _ _ (by simp; exact ⟨n3, n2⟩) (off_but (C := [i1, TO]) (by simp) c2 _ _ (by simp; exact ⟨n3, n2⟩) o1'))
  have i5 : g5.IsTupleIter i1 l1 (k + 1) := Off.titer (C := [i2, TO]) f45 (by simp; exact ⟨n10, Ne.symm n8⟩) (Off.titer (C := [TO]) (off_but (by simp) c3) (by simp; exact Ne.symm n8) w1)
  have j5 : g5.IsListIter i2 l2 (k + 1) := Off.iter (C := [TO]) (off_but (by simp) c5) (by simp; exact Ne.symm n9) w2
  have sz : g5.objs.size = s.heap.objs.size := by rw [c5.1, c4.1, c3.1, c2.1, c1.1]
  -- the tuple is handed out
  refine wpAny_bind (wpAny_seqItems p5' rfl (wpAny_bind (wpAny_newTuple ?_)))
  show wpAny _ _ (Builtin.SmallTypes.ownedTupleHandOut (.ref z) (.ref g5.objs.size) >>= _) _ _ _
  unfold Builtin.SmallTypes.ownedTupleHandOut
  have z6 : (g5.push { cls := .type "tuple", data := .seq #[x, y] }).get? z = some (zRec .ellipsis TI TO) := Heap.get?_push_of_some _ z5
  refine wpAny_bind (wpAny_bind (wpAny_setField_rec z6 (by simp) fun g7 z7 c7 => ?_))
  have z7' : g7.get? z = some (zRec (rawInt g5.objs.size) TI TO) := z7
  refine wpAny_setField_rec z7' (by simp) fun g8 z8 c8 => wpAny_pure ⟨_, rfl, ?_⟩
  have z8' : g8.get? z = some (zRec (rawInt g5.objs.size) TI TO) := z8
  have f8 : Off [z] g5 g8 := fun c o n e => off_but (C := [z]) (by simp) c8 c o n (off_but (C := [z]) (by simp) c7 c o n (Heap.get?_push_of_some _ e))
  have zl : z < g5.objs.size := Heap.lt_size z5
  have zn : g5.objs.size ∉ [z] := fun m => by
    have e := List.mem_singleton.mp m
    rw [e] at zl
    exact Nat.lt_irrefl _ zl
  have t8 : IsPair g8 g5.objs.size x y := off_but (C := [z]) (by simp) c8 _ _ zn (off_but (C := [z]) (by simp) c7 _ _ zn (Heap.get?_push_size _ rfl))
  show Q (.ref g5.objs.size) _
  rw [sz] at z8' t8 ⊢
  refine q g8 ⟨z8', f8 _ _ (by simp; exact Ne.symm n1) (f5 _ _ (by simp; exact ⟨Ne.symm n1, n5, n6, n7⟩) Zs), ⟨x, y, f8 _ _ (by simp; exact Ne.symm n2) p5'⟩, f8.titer (by simp; exact Ne.symm n3) i5, f8.iter (by simp; exact Ne.symm n4) j5⟩ t8
    (f5.then fun c o n e => f8 c o (by simp at n ⊢; exact n.1) e)
/-- both have ended -/
theorem last {z TI TO i1 i2 l1 l2 : Addr} {k : Nat} {xs ys : Array Value} {Q : Fin → Shared → Prop} (hh : A.handled = none) (P : ZStr.Apart z TI TO i1 i2 l1 l2) (Z : ZT s.heap z TI TO i1 i2 l1 l2 k .none)
    (u1 : s.heap.IsTuple l1 xs) (u2 : s.heap.IsList l2 ys) (hx : xs[k]? = none) (hy : ys[k]? = none)
    (q : ∀ h' e, Off [z, TO, i1, i2] s.heap h' → (∃ o, h'.get? e = some o ∧ o.cls = .type "StopIteration") → E (.ref e) { s with heap := h' }) :
    wpAny (model prog w) A (Builtin.«zip.__next__» ⟨[.ref z], []⟩) Q E s := by
  obtain ⟨Zo, Zs, ⟨a, b, Zt⟩, Z1, Z2⟩ := Z
  have nd := P.nd
  simp only [List.nodup_cons, List.mem_cons, List.not_mem_nil, not_or, or_false, List.nodup_nil, and_true, not_false_eq_true] at nd
  obtain ⟨⟨n1, n2, n3, n4⟩, ⟨n5, n6, n7⟩, ⟨n8, n9⟩, n10⟩ := nd
  have v1 := P.o1
  have v2 := P.o2
  simp only [List.mem_cons, List.not_mem_nil, not_or, or_false] at v1 v2
  show wpAny _ _ (field (.ref z) 2 >>= _) _ _ _
  refine wpAny_bind (wpAny_field Zo rfl (x := .bool true) rfl ?_)
  show wpAny _ _ (field (.ref z) 3 >>= _) _ _ _
  refine wpAny_bind (wpAny_field Zo rfl (x := .ref TI) rfl (wpAny_bind (wpAny_seqItems Zs rfl ?_)))
  show wpAny _ _ (Builtin.SmallTypes.ownedTupleIsFree (.ref z) >>= _) _ _ _
  unfold Builtin.SmallTypes.ownedTupleIsFree
  refine wpAny_bind (wpAny_bind (wpAny_field Zo rfl (x := .none) rfl (wpAny_pure ?_)))
  simp only [if_true]
  refine wpAny_bind (wpAny_rule (wpAny_bind (wpAny_field Zo rfl (x := .ref TO) rfl (wpAny_bind (wpAny_setField_rec Zo (by simp) fun g1 o1 c1 => ?_)))))
  have o1' : g1.get? z = some (zRec .ellipsis TI TO) := o1
  have f1 : Off [z] s.heap g1 := off_but (by simp) c1
  refine wpAny_bind ?_
  simp only [List.zipIdx_cons, List.zipIdx_nil, List.forIn_cons, List.forIn_nil]
  refine wpAny_bind (wpAny_bind (wpAny_onRaise ?_))
  show wpAny _ _ (Builtin.SmallTypes.nextOrEnd (.ref i1)) _ _ _
  refine draw_noneT hh (f1.titer (by simp; exact Ne.symm n3) Z1) (f1.tup (by simp; exact v1.1) u1) hx fun g2 c2 => ?_
  have o2 : g2.get? z = some (zRec .ellipsis TI TO) := c2 _ _ n3 o1'
  refine wpAny_bind (wpAny_setField_rec o2 (by simp) fun g3 z3 c3 => wpAny_bind ?_)
  show wpAny _ _ (forIn [((Value.ref i2), 1)] _ _ >>= _) _ _ _
  refine wpAny_bind ?_
  simp only [List.forIn_cons, List.forIn_nil]
  have w2 : Off [z, i1] s.heap g3 := Off.then (fun c o n e => off_ext (C := [i1]) (by simp) c2 c o (by simp at n ⊢; exact n.2) (f1 c o (by simp at n ⊢; exact n.1) e)) (off_but (by simp) c3)
  refine wpAny_bind (wpAny_bind ?_)
  refine draw_none hh (w2.iter (by simp; exact ⟨Ne.symm n4, Ne.symm n10⟩) Z2) (w2.list (by simp; exact ⟨v2.1, v2.2.2.1⟩) u2) hy fun g4 c4 => ?_
  refine wpAny_pure ?_
  show wpAny _ _ (pure PUnit.unit) _ _ _
  refine wpAny_pure (wpAny_bind (wpAny_rule ?_))
  show wpAny _ _ (newExc (.type "StopIteration") [] >>= _) _ _ _
  refine wpAny_bind ?_
  unfold newExc newTuple
  refine wpAny_bind (wpAny_newObj_type ?_ (by size_fits))
  refine wpAny_bind (m := firstArgMember _ _) (wpAny_of_eq (a := Value.none) (by simp only [firstArgMember]; rfl) ?_)
  refine wpAny_newObj_type ?_ (by size_fits)
  refine wpAny_raiseNew_none hh ?_
  have w4 : Off [z, TO, i1, i2] s.heap g4 := Off.then (fun c o n e => w2 c o (by simp at n ⊢; exact ⟨n.1, n.2.2.1⟩) e) (off_ext (by simp) c4)
  exact q _ _ (w4.then fun c o _ e => Heap.get?_push_of_some _ (Heap.get?_push_of_some _ e)) ⟨_, Heap.get?_push_size _ rfl, rfl⟩
/-! the walk of it -/
theorem next_some {z TI TO i1 i2 l1 l2 : Addr} {k : Nat} {xs ys : Array Value} {x y : Value} {Q : Option Value → Shared → Prop} (P : ZStr.Apart z TI TO i1 i2 l1 l2) (Z : ZT s.heap z TI TO i1 i2 l1 l2 k .none)
    (u1 : s.heap.IsTuple l1 xs) (u2 : s.heap.IsList l2 ys) (hx : xs[k]? = some x) (hy : ys[k]? = some y)
    (q : ∀ h', ZT h' z TI TO i1 i2 l1 l2 (k + 1) (rawInt s.heap.objs.size) → IsPair h' s.heap.objs.size x y → Off [z, TO, i1, i2] s.heap h' → Q (some (.ref s.heap.objs.size)) { s with heap := h' }) :
    wpAny (model prog w) A (pyNext (.ref z)) Q E s := by
  have hT : s.TypeIs (.ref z) "zip" := ⟨_, Z.obj, rfl⟩
  unfold pyNext
  refine wpAny_bind (wpAny_attempt (wpAny_callSpecial?_slot (name := Str.ofString "__next__") hT F.slot_zip_next (wpAny_call_entry F.slot_zip_next hT F.entry_zip_next ?_ (F.args_zip_next_1 _))))
  exact turn P Z u1 u2 hx hy fun h' a b c => wpAny_pure (q h' a b c)
theorem next_none {z TI TO i1 i2 l1 l2 : Addr} {k : Nat} {xs ys : Array Value} {Q : Option Value → Shared → Prop} (hh : A.handled = none) (P : ZStr.Apart z TI TO i1 i2 l1 l2) (Z : ZT s.heap z TI TO i1 i2 l1 l2 k .none)
    (u1 : s.heap.IsTuple l1 xs) (u2 : s.heap.IsList l2 ys) (hx : xs[k]? = none) (hy : ys[k]? = none) (q : ∀ h', Off [z, TO, i1, i2] s.heap h' → Q none { s with heap := h' }) :
    wpAny (model prog w) A (pyNext (.ref z)) Q E s := by
  have hT : s.TypeIs (.ref z) "zip" := ⟨_, Z.obj, rfl⟩
  unfold pyNext
  refine wpAny_bind (wpAny_attempt (wpAny_callSpecial?_slot (name := Str.ofString "__next__") hT F.slot_zip_next (wpAny_call_entry F.slot_zip_next hT F.entry_zip_next ?_ (F.args_zip_next_1 _))))
  refine last hh P Z u1 u2 hx hy fun h' e a b => ?_
  obtain ⟨o, b1, b2⟩ := b
  exact wpAny_bind (wpAny_isInstance (T := "StopIteration") (b := true) ⟨o, b1, b2⟩ isSubtype_stop (wpAny_pure (q h' a)))
end
/-! ### the making -/
abbrev g1 (h : Heap) (l1 : Addr) : Heap := h.push { cls := .type "tuple_iterator", data := .fields #[.ref l1, .int 0 0] }
abbrev g2 (h : Heap) (l1 l2 : Addr) : Heap := (g1 h l1).push { cls := .type "list_iterator", data := .fields #[.ref l2, .int 0 0] }
abbrev g3 (h : Heap) (l1 l2 : Addr) : Heap := (g2 h l1 l2).push { cls := .type "tuple", data := .seq #[.ref h.objs.size, .ref (g1 h l1).objs.size] }
abbrev g4 (h : Heap) (l1 l2 : Addr) : Heap := (g3 h l1 l2).push { cls := .type "tuple", data := .seq #[.none, .none] }
abbrev g5 (h : Heap) (l1 l2 : Addr) : Heap := (g4 h l1 l2).push (zRec .none (g2 h l1 l2).objs.size (g3 h l1 l2).objs.size)
theorem made (l1 l2 : Addr) (xs ys : Array Value) :
    Meets (Builtin.«zip.__new__» ⟨[.type "zip", .ref l1, .ref l2], [(Str.ofString "strict", .bool true)]⟩) (fun _ R s => s.heap.IsTuple l1 xs ∧ s.heap.IsList l2 ys ∧ R (.ok (.ret (.ref (g4 s.heap l1 l2).objs.size))) { s with heap := g5 s.heap l1 l2 }) :=
  .of_wp fun prog w A R s h => by
    obtain ⟨hp, g, d, tk, os⟩ := s
    obtain ⟨u1, u2, h⟩ := h
    have hsub := sub_zip
    have a1 : Heap.IsTuple (Shared.heap ⟨hp, g, d, tk, os⟩) l1 xs := u1
    have a2 : Heap.IsList (Shared.heap ⟨hp.push { cls := .type "tuple_iterator", data := .fields #[.ref l1, .int 0 0] }, g, d, tk, os⟩) l2 ys := Heap.IsList.push u2 _
    have e1 : (Str.ofString "strict" != ("strict" : Str)) = false := by decide +kernel
    wp_walk using wpAny_pyIter_tuple a1, wpAny_pyIter_list a2
    exact ⟨_, rfl, h⟩
end ZTl
end PySem
/-! zip(xs, ys, strict=True) of a tuple and a list: what is walked. -/
namespace WS
open PySem PySem.Spec PyProof.Rows L2
/-- a tuple and a list of one length, their items in new pairs -/
def Itzt (K : PySem.W.Frag) (a b : Addr) : It :=
  ⟨fun i H => ∃ xs ys x y, SqT K H a xs ∧ SqL K H b ys ∧ xs[i]? = some x ∧ ys[i]? = some y,
   fun i H v H' => ∃ T x y, v = .ref T ∧ H T = none ∧ H' = upd H T (.tup [x, y]) ∧ (∀ xs, SqT K H a xs → xs[i]? = some x) ∧ (∀ ys, SqL K H b ys → ys[i]? = some y),
   fun i H => ∃ xs ys, SqT K H a xs ∧ SqL K H b ys ∧ xs.length ≤ i ∧ ys.length ≤ i⟩
theorem turn_strictT {P : Program} {w : World} {K : PySem.W.Frag} {es : List Expr} {kk : Nat} {tp : Pos} {a b z TI TO i1 i2 : Addr} (A : ZStr.Apart z TI TO i1 i2 a b) :
    Turn P w K (.Tuple es kk tp) (Itzt K a b) [z, TI, TO, i1, i2] z (fun i h => ZTl.ZT h z TI TO i1 i2 a b i .none) where
  mem := by simp
  obj := fun i h st c hc => by
    obtain ⟨s1, s2, ⟨x, y, s3⟩, ⟨o1, e1, _, d1⟩, ⟨o2, e2, _, d2⟩⟩ := st
    rcases in5 hc with q | q | q | q | q <;> subst q
    · exact ⟨_, s1, fun v q => nomatch q⟩
    · exact ⟨_, s2, fun v q => nomatch q⟩
    · exact ⟨_, s3, fun v q => nomatch q⟩
    · exact ⟨o1, e1, fun v q => by rw [d1] at q; cases q⟩
    · exact ⟨o2, e2, fun v q => by rw [d2] at q; cases q⟩
  keep := fun i h h' st k => by
    obtain ⟨s1, s2, ⟨x, y, s3⟩, s4, s5⟩ := st
    exact ⟨k z (by simp) _ s1, k TI (by simp) _ s2, ⟨x, y, k TO (by simp) _ s3⟩, s4.at fun o q => k i1 (by simp) o q, s5.at fun o q => k i2 (by simp) o q⟩
  item := by
    intro X hP hw hK hc i pins s σ H E I hf st hg
    subst hP hw hK
    obtain ⟨xs, ys, x, y, qx, qy, hx, hy⟩ := hg
    obtain ⟨us, rx, px, _⟩ := I.tuple qx
    obtain ⟨vs, ry, py, _⟩ := I.list qy
    obtain ⟨u, hu, ru⟩ := rx.get hx
    obtain ⟨v, hv, rv⟩ := ry.get hy
    have zl : z < s.heap.objs.size := Heap.lt_size st.obj
    refine ZTl.next_some A st px py.isList (x := u) (y := v) (by simpa using hu) (by simpa using hv) fun h1 Z1 T1 f1 => ?_
    refine ⟨_, rfl, ZStr.let_go (s := { s with heap := h1 }) Z1.obj fun h2 z2 sb => ?_⟩
    have g : ∀ c o, c ≠ z → h1.get? c = some o → h2.get? c = some o := fun c o n e => sb.extBut c o n e
    have T2 : IsPair h2 s.heap.objs.size u v := g _ _ (Nat.ne_of_gt zl) T1
    have all : ∀ c o, c ∉ [z, TI, TO, i1, i2] → s.heap.get? c = some o → h2.get? c = some o := fun c o n e => by
      simp only [List.mem_cons, List.not_mem_nil, not_or, or_false] at n
      exact g _ _ n.1 (f1 _ _ (by simp only [List.mem_cons, List.not_mem_nil, not_or, or_false]; exact ⟨n.1, n.2.2.1, n.2.2.2.1, n.2.2.2.2⟩) e)
    have new : ObjOk X.prog X.w (upd H s.heap.objs.size (.tup [x, y])) h2 s.heap.objs.size (.tup [x, y]) := ⟨by show 2 ≤ sizeLine; decide, [u, v], .cons ru (.cons rv .nil), ⟨_, T2, rfl, _, rfl⟩⟩
    have J : Inv X pins σ (upd H s.heap.objs.size (.tup [x, y])) { s with heap := h2 } := I.turnedNew (t' := s.toks) (ch := [z, TI, TO, i1, i2]) all hf (Nat.le_refl _) new
    have nd := A.nd
    simp only [List.nodup_cons, List.mem_cons, List.not_mem_nil, not_or, or_false, List.nodup_nil, and_true, not_false_eq_true] at nd
    obtain ⟨p, q, t3⟩ := Z1.out
    refine ⟨.ref s.heap.objs.size, _, J, rfl, ⟨_, x, y, rfl, I.hok.fresh (Nat.le_refl _), rfl, fun l hl => by rw [I.tuple_inj hl qx]; exact hx, fun l hl => by rw [I.list_inj hl qy]; exact hy⟩,
      ⟨z2, g _ _ (Ne.symm nd.1.1) Z1.src, ⟨p, q, g _ _ (Ne.symm nd.1.2.1) t3⟩, Z1.it1.at fun o e => g _ o (Ne.symm nd.1.2.2.1) e, Z1.it2.at fun o e => g _ o (Ne.symm nd.1.2.2.2) e⟩, fun c hcm => ?_⟩
    have lt : c < s.heap.objs.size := by
      obtain ⟨s1, s2, ⟨_, _, s3⟩, ⟨_, e1, _⟩, ⟨_, e2, _⟩⟩ := st
      rcases in5 hcm with q | q | q | q | q <;> subst q
      · exact zl
      · exact Heap.lt_size s2
      · exact Heap.lt_size s3
      · exact Heap.lt_size e1
      · exact Heap.lt_size e2
    rw [upd_ne (Nat.ne_of_lt lt)]
    exact (hf c hcm).1
  done := by
    intro X hP hw hK hc i pins s σ H E I hf st hg
    subst hP hw hK
    obtain ⟨xs, ys, qx, qy, lx, ly⟩ := hg
    obtain ⟨us, rx, px, _⟩ := I.tuple qx
    obtain ⟨vs, ry, py, _⟩ := I.list qy
    have l1 := rx.length
    have l2 := ry.length
    refine ZTl.next_none (I.ok.hd hc) A st px py.isList (by simp; omega) (by simp; omega) fun h' f => ⟨rfl, I.turnedL (t' := s.toks) (ch := [z, TI, TO, i1, i2]) (fun c o n q => ?_) hf⟩
    simp only [List.mem_cons, List.not_mem_nil, not_or, or_false] at n
    exact f c o (by simp only [List.mem_cons, List.not_mem_nil, not_or, or_false]; exact ⟨n.1, n.2.2.1, n.2.2.2.1, n.2.2.2.2⟩) q
  self := fun A i s Q E st h => ZStr.iter_self st.obj h
def iZipT (K : PySem.W.Frag) (ta : TA) : TI := fun σ H R => ta σ H fun vs H1 => ∃ a b xs ys, vs = [.ref a, .ref b] ∧ SqT K H1 a xs ∧ SqL K H1 b ys ∧ R (Itzt K a b) H1
theorem pi_strictT {X : Cx} {e e2 : Expr} {ta : TA} {p pos tp kp cp : Pos} {es : List Expr} {kk j : Nat} (hg : Gl X "zip") (hm : X.mg "zip" = none) (ha : PA X [e, e2] ta)
    (he : backTo pos (starEach [e, e2] X.env) = (false, eval e X.env) :: backTo pos (starEach [e2] X.env) := by rfl) (hp : (backTo pos (starEach [e, e2] X.env)).any (·.1) = false := by rfl)
    (h1 : (backToKw pos (keywordEach [⟨some "strict", .Constant (.bool true) j cp, kp⟩] X.env)).all (·.1.isSome) = true := by rfl) (h2 : (backToKw pos (keywordEach [⟨some "strict", .Constant (.bool true) j cp, kp⟩] X.env)).any (·.1.isNone) = false := by rfl)
    (h3 : (backToKw pos (keywordEach [⟨some "strict", .Constant (.bool true) j cp, kp⟩] X.env)).filterMap (·.1) = [Str.ofString "strict"] := by rfl) :
    PI X (.Tuple es kk tp) (.Call (.Name "zip" p) [e, e2] [⟨some "strict", .Constant (.bool true) j cp, kp⟩] pos) (iZipT X.K ta) := by
  refine ⟨fun pins s σ H R I h => ?_⟩
  refine wpAny_Call_Name_kw (ld_blt I hg hm PyProof.Rows.boot_zip ?_)
  refine with_kw (thn (ha.run pos pins s σ H _ I h) fun us s1 ⟨vs, H1, I1, r1, q1⟩ => ?_) he hp h1 h2
  have kk := (pk_cons (X := X) (nm := some "strict") (kpos := kp) (pe_bl (b := true) (j := j) (pos := cp)) pk_nil).run pos pins s1 σ H1 (fun zs H2 => zs = [V.bl true] ∧ H2 = H1) I1 ⟨rfl, rfl⟩
  refine thn kk fun ws s2 ⟨zs, H2, I2, r2, e2, e3⟩ => ?_
  subst e2 e3
  rw [h3]
  obtain ⟨a, b, xs, ys, ev, qx, qy, q⟩ := q1
  subst ev
  have ew : ws = [Value.bool true] := by
    cases r2 with
    | cons a1 a2 => cases a2; rw [show _ = Value.bool true from a1]
  subst ew
  obtain ⟨u1, u2, rfl, w1, w2⟩ := vals2 r1
  cases w1
  cases w2
  obtain ⟨us, rx, px, _⟩ := I2.tuple qx
  obtain ⟨vs, ry, py, _⟩ := I2.list qy
  have la : a < s2.heap.objs.size := Heap.lt_size px.choose_spec.1
  have lb : b < s2.heap.objs.size := py.lt
  show wpAny _ _ (call (.type "zip") [.ref a, .ref b] [(Str.ofString "strict", .bool true)]) _ _ _
  refine callType_newKw F.called_zip (by decide) (ZStr.F.typeCall_strict _ _ _) (ZStr.F.newCall_strict _ _ _) (fun o => ZStr.F.init_strict o _ _ _) F.entry_zip_new (ZTl.made a b _ _) ⟨px, py.isList, ?_⟩
  have z1 : (ZTl.g1 s2.heap a).objs.size = s2.heap.objs.size + 1 := Heap.size_push ..
  have z2 : (ZTl.g2 s2.heap a b).objs.size = s2.heap.objs.size + 2 := by rw [Heap.size_push, z1]
  have z3 : (ZTl.g3 s2.heap a b).objs.size = s2.heap.objs.size + 3 := by rw [Heap.size_push, z2]
  have z4 : (ZTl.g4 s2.heap a b).objs.size = s2.heap.objs.size + 4 := by rw [Heap.size_push, z3]
  have up : ∀ c o, s2.heap.get? c = some o → (ZTl.g5 s2.heap a b).get? c = some o := fun c o e => Heap.get?_push_of_some _ (Heap.get?_push_of_some _ (Heap.get?_push_of_some _ (Heap.get?_push_of_some _ (Heap.get?_push_of_some _ e))))
  have d5 : (ZTl.g5 s2.heap a b).get? (ZTl.g4 s2.heap a b).objs.size = some _ := Heap.get?_push_size _ rfl
  have d4 : (ZTl.g5 s2.heap a b).get? (ZTl.g3 s2.heap a b).objs.size = some _ := Heap.get?_push_of_some _ (Heap.get?_push_size _ rfl)
  have d3 : (ZTl.g5 s2.heap a b).get? (ZTl.g2 s2.heap a b).objs.size = some _ := Heap.get?_push_of_some _ (Heap.get?_push_of_some _ (Heap.get?_push_size _ rfl))
  have d2 : (ZTl.g5 s2.heap a b).get? (ZTl.g1 s2.heap a).objs.size = some _ := Heap.get?_push_of_some _ (Heap.get?_push_of_some _ (Heap.get?_push_of_some _ (Heap.get?_push_size _ rfl)))
  have d1 : (ZTl.g5 s2.heap a b).get? s2.heap.objs.size = some _ := Heap.get?_push_of_some _ (Heap.get?_push_of_some _ (Heap.get?_push_of_some _ (Heap.get?_push_of_some _ (Heap.get?_push_size _ rfl))))
  show _ ∧ _
  rw [z1] at d2
  rw [z1, z2] at d3
  rw [z3] at d4
  rw [z2, z3, z4] at d5
  rw [z4]
  have I3 : L2.Inv X pins σ H2 { s2 with heap := ZTl.g5 s2.heap a b } := I2.kept (t' := s2.toks) up
  refine ⟨⟨_, d5, rfl⟩, ZStr.iter_self d5 ⟨s2.heap.objs.size + 4, [s2.heap.objs.size + 4, s2.heap.objs.size + 2, s2.heap.objs.size + 3, s2.heap.objs.size, s2.heap.objs.size + 1], _, _, H2, rfl, I3, turn_strictT (apart_new s2.heap.objs.size a b la lb), ⟨d5, d3, ⟨_, _, d4⟩, ⟨_, d1, rfl, rfl⟩, ⟨_, d2, rfl, rfl⟩⟩, fun c hc => ?_, q⟩⟩
  have le : s2.heap.objs.size ≤ c := by
    rcases in5 hc with q | q | q | q | q
    · rw [q]; exact Nat.le_add_right _ _
    · rw [q]; exact Nat.le_add_right _ _
    · rw [q]; exact Nat.le_add_right _ _
    · rw [q]; exact Nat.le_refl _
    · rw [q]; exact Nat.le_add_right _ _
  exact I2.fpOk le (I2.hok.fresh le)
theorem di_zipT {K : PySem.W.Frag} {B : List Addr} {Γ : List Sl} {ta tb : TE} {ds es : List D} (h : DE K B ta Γ (.tuple ds)) (h' : DE K B tb Γ (.list es)) (hl : ds.length = es.length) : DI K B (iZipT K (tCons ta (tCons tb tNil))) Γ (zpD ds es) := fun H0 σ H E R q =>
  h H0 σ H E _ fun v H1 e1 hv => h' H0 σ H1 (E.grow e1) _ fun u H2 e2 hu => by
    obtain ⟨a, vs, g1, g2, g3⟩ := (hv.ex (msk_ex e2)).tup_inv
    obtain ⟨b, us, f1, f2, f3⟩ := hu.list_inv
    have lz : (zpD ds es).length = ds.length := by unfold zpD; rw [List.length_map, List.length_zip, hl, Nat.min_self]
    refine ⟨a, b, vs, us, by rw [g1, f1], sqT_ex msk_le g2, msk_le.seq f2, q _ H2 (e1.trans e2) ⟨fun B' H3 e hb i d hd => ?_, fun B' H3 e hb => ⟨vs, us, sqT_ex msk_le (sqT_ex e g2), msk_le.seq (e.seq f2), by rw [lz, g3.len]; exact Nat.le_refl _, by rw [lz, f3.len, hl]; exact Nat.le_refl _⟩⟩⟩
    have hi : i < ds.length := lz ▸ get_len hd
    have hj : i < es.length := hl ▸ hi
    obtain ⟨x, x1, x2⟩ := g3.get (List.getElem?_eq_getElem hi)
    obtain ⟨y, y1, y2⟩ := f3.get (List.getElem?_eq_getElem hj)
    have ed : d = .tuple [ds[i], es[i]] := by
      unfold zpD at hd
      rw [List.getElem?_map, List.getElem?_eq_getElem (by rw [List.length_zip]; omega), List.getElem_zip] at hd
      exact (Option.some.inj hd).symm
    subst ed
    have sa : SqT K H3 a vs := sqT_ex msk_le (sqT_ex e g2)
    have sb : SqL K H3 b us := msk_le.seq (e.seq f2)
    refine ⟨⟨vs, us, x, y, sa, sb, x1, y1⟩, fun z H' yl => ?_⟩
    obtain ⟨T, x', y', rfl, nT, rfl, fx, fy⟩ := yl
    have ex := fx vs sa
    rw [x1] at ex
    cases ex
    have ey := fy us sb
    rw [y1] at ey
    cases ey
    have hn := hb.nin nT
    exact ⟨same_new nT, .tup (.inl (.inl (by rw [msk_out hn]; exact upd_same))) (.cons ((x2.ex e).ex (msk_ex (same_new nT))) (.cons ((y2.ex e).ex (msk_ex (same_new nT))) .nil))⟩
end WS
/-! More statements: loops whose own lists change; swaps; names for several lists; a mixer as the one argument. -/
namespace WS
open PySem PySem.Spec PyProof.Rows L2
section
variable {K : PySem.W.Frag} {mg : Str → Option Value} {B : List Addr} {H0 H H' H1 H2 : Hp} {σ : L2.St} {Γ Γ' : List Sl} {te ta tb tc : TE} {tt tu : TT} {tr : TA} {d d1 d2 d3 : D} {ds es ss : List D} {C : Addr}
variable {Dn : Ends} {t u tz : TS} {g : TG}
theorem Env.own_in (E : Env K B H0 σ H Γ) {l : Addr} (h : l ∈ ownAt Γ) : l ∈ B := by
  obtain ⟨i, ds, hi⟩ := of_ownAt h
  exact (E.at_ i _ hi).2.1
/-- as many addresses as needed -/
theorem Env.trim (E : Env K B H0 σ H Γ) {B0 : List Addr} (hs : ∀ b ∈ B0, b ∈ B) : Env K (ownAt Γ ++ B0) H0 σ H Γ := by
  refine E.less (fun b hb => ?_) fun i l ds hi => List.mem_append_left _ (mem_ownAt hi)
  rcases List.mem_append.mp hb with z | z
  · exact E.own_in z
  · exact hs b z
/-- for: I tells the slots ahead of each turn; the lists of one's own may be others -/
theorem s_forX {wi : TI} {vs : List Nat} (E : Env K B H0 σ H Γ) (hw : DI K B wi Γ ds) (I : Nat → List Sl → Prop) (hI : I 0 Γ)
    (hb : ∀ (i : Nat) (d : D) (Γi : List Sl), ds[i]? = some d → I i Γi → ∃ Γd, (∀ B', DG K B' g d Γi Γd vs) ∧ ∀ (B' : List Addr) (H0' : Hp) (σ' : L2.St) (H' : Hp), (∀ b ∈ B, b ∈ B') → Env K B' H0' σ' H' Γd → ∀ (N : L2.St → Hp → Prop),
      (∀ B'' Γ'' σ'' H'', I (i + 1) Γ'' → (∀ b ∈ B', b ∈ B'') → Env K B'' H0' σ'' H'' Γ'' → N σ'' H'') → ∀ X Y Z, t { nx := N, rt := X, ct := Y, bk := Z } σ' H')
    (k : ∀ B' Γ' σ' H', I ds.length Γ' → (∀ b ∈ B, b ∈ B') → Env K B' H0 σ' H' Γ' → Dn.nx σ' H') : tFor wi g t Dn σ H :=
  hw H0 σ H E _ fun J H1 e1 jk => by
    have E1 := E.grow e1
    have F0 := E1.rebase.trim (B0 := B) fun b hb => hb
    refine ⟨fun i m σ' H' => m = ds.length - i ∧ i ≤ ds.length ∧ ∃ Γi, I i Γi ∧ Env K (ownAt Γi ++ B) (msk (ownAt Γ) H1) σ' H' Γi, ⟨ds.length, by simp, Nat.zero_le _, Γ, hI, F0⟩, ?_⟩
    rintro i m σ2 H2 ⟨rfl, hi, Γi, hΓ, F⟩
    have new : ∀ l, l ∈ ownAt Γi → H1 l = none ∨ l ∈ ownAt Γ := fun l hl => by
      obtain ⟨j, es, hj⟩ := of_ownAt hl
      have := F.new j l es hj
      by_cases hz : l ∈ ownAt Γ
      · exact .inr hz
      · rw [msk_out hz] at this; exact .inl this
    have em : Same (msk B H1) (msk (ownAt Γi ++ B) H2) := fun a o q => by
      obtain ⟨n, q⟩ := msk_some q
      have n1 : a ∉ ownAt Γ := fun z => n (E1.own_in z)
      have n2 : a ∉ ownAt Γi := fun z => by
        rcases new a z with y | y
        · rw [y] at q; cases q
        · exact n1 y
      rw [msk_out fun z => by
        rcases List.mem_append.mp z with y | y
        · exact n2 y
        · exact n y]
      exact F.ex a o (by rw [msk_out n1]; exact q)
    by_cases hlt : i < ds.length
    · have hx : ds[i]? = some ds[i] := List.getElem?_eq_getElem hlt
      obtain ⟨hgo, hyl⟩ := jk.go _ H2 em F.bd i _ hx
      obtain ⟨Γd, hg, hbody⟩ := hb i _ Γi hx hΓ
      refine .inr ⟨hgo, fun σ3 H3 => ∃ Γ3, I (i + 1) Γ3 ∧ Env K (ownAt Γ3 ++ B) (msk (ownAt Γ) H1) σ3 H3 Γ3, fun σ' H' p => ⟨ds.length - (i + 1), by omega, rfl, hlt, p⟩, fun x H3 y => ?_⟩
      obtain ⟨e3, hx3⟩ := hyl x H3 y
      refine hg _ _ σ2 H3 x (F.grow e3) hx3 _ fun σ4 E4 _ => hbody _ _ σ4 H3 (fun b hb => List.mem_append_right _ hb) E4 _ (fun B5 Γ5 σ5 H5 h5 s5 E5 => ⟨Γ5, h5, E5.trim fun b hb => s5 b (List.mem_append_right _ hb)⟩) _ _ _
    · have ei : i = ds.length := by omega
      subst ei
      refine .inl ⟨jk.stop _ H2 em F.bd, k _ _ σ2 H2 hΓ (fun b hb => List.mem_append_right _ hb) (E1.unbase F fun j l es hj => ?_)⟩
      rcases new l (mem_ownAt hj) with y | y
      · cases h0 : H0 l with
        | none => rfl
        | some o => rw [E1.ex l o h0] at y; cases y
      · obtain ⟨j', es', hj'⟩ := of_ownAt y
        exact E1.new j' l es' hj'
theorem q_forX {wi : TI} {vs : List Nat} (E : Env K B H0 σ H Γ) (hw : DI K B wi Γ ds) (I : Nat → List Sl → Prop) (hI : I 0 Γ)
    (hb : ∀ (i : Nat) (d : D) (Γi : List Sl), ds[i]? = some d → I i Γi → ∃ Γd, (∀ B', DG K B' g d Γi Γd vs) ∧ ∀ (B' : List Addr) (H0' : Hp) (σ' : L2.St) (H' : Hp), (∀ b ∈ B, b ∈ B') → Env K B' H0' σ' H' Γd → ∀ (N : L2.St → Hp → Prop),
      (∀ B'' Γ'' σ'' H'', I (i + 1) Γ'' → (∀ b ∈ B', b ∈ B'') → Env K B'' H0' σ'' H'' Γ'' → N σ'' H'') → ∀ X Y Z, t { nx := N, rt := X, ct := Y, bk := Z } σ' H')
    (k : ∀ B' Γ' σ' H', I ds.length Γ' → (∀ b ∈ B, b ∈ B') → Env K B' H0 σ' H' Γ' → tz Dn σ' H') : tSeq (tFor wi g t) tz Dn σ H := s_forX (Dn := { Dn with nx := tz Dn }) E hw I hI hb k
/-- a name for a new list of one's own, told to be new -/
theorem s_asgN (E : Env K B H0 σ H Γ) {i : Nat} (h : DL K B te Γ ds) (k : ∀ l σ' H', l ∉ B → Env K (l :: B) H0 σ' H' (Γ.set i (.own l ds)) → Dn.nx σ' H') : tAsg te (gName i) Dn σ H :=
  h H0 σ H E _ fun l vs H1 hl e1 hv ha => by
    obtain ⟨E1, em⟩ := E.add hl e1 ⟨_, hv⟩
    refine k l _ _ (E.nin hl) (E1.setO i List.mem_cons_self (E.ex.free hl) (fun j ds' q => ?_) hv ha)
    obtain ⟨_, z, _⟩ := E.at_ j _ q
    exact absurd z (E.nin hl)
theorem q_asgN (E : Env K B H0 σ H Γ) {i : Nat} (h : DL K B te Γ ds) (k : ∀ l σ' H', l ∉ B → Env K (l :: B) H0 σ' H' (Γ.set i (.own l ds)) → tz Dn σ' H') : tSeq (tAsg te (gName i)) tz Dn σ H := s_asgN (Dn := { Dn with nx := tz Dn }) E h k
/-- an own list becomes data, its address free again -/
theorem Env.melt (E : Env K B H0 σ H Γ) {i : Nat} {l : Addr} (hi : Γ[i]? = some (.own l ds)) : Env K (B.filter (· ≠ l)) H0 σ H (Γ.set i (.dat (.list ds))) :=
  E.freeze hi (by simp) (fun b hb => (List.mem_filter.mp hb).1) fun j l' ds' hj hq => List.mem_filter.mpr ⟨(E.at_ j _ hq).2.1, by
    have : l' ≠ l := fun e => hj (E.inj j i l ds' ds (e ▸ hq) hi)
    simpa using this⟩
/-- a list of one's own handed back -/
theorem s_retO (E : Env K B H0 σ H Γ) {i : Nat} {l : Addr} (hi : Γ[i]? = some (.own l ds)) {B0 : List Addr} (h0 : Bnd B0 H0) (hs : ∀ b ∈ B0, b ∈ B) (k : ∀ v H', Same H0 H' → Dp K (msk B0 H') v (.list ds) → Dn.rt v H') : tRet (tVar i) Dn σ H := by
  obtain ⟨z1, z2, vs, z3, z4⟩ := E.at_ i _ hi
  refine ⟨_, z1, k _ H E.ex ?_⟩
  have n : l ∉ B0 := h0.nin (E.new i l _ hi)
  exact .lst (.inl (.inl (by rw [msk_out n]; exact z3))) (z4.ex (msk_sub hs))
/-- the own list at slot i: two of its items, each for the other -/
theorem s_swap (E : Env K B H0 σ H Γ) {i : Nat} {l : Addr} {j1 j2 : Nat} {z1 z2 : Int} {t1 t2 : TE} (hi : Γ[i]? = some (.own l ds)) (h : DA K B tr Γ [d1, d2])
    (h1 : DE K B t1 Γ (.int z1)) (g1 : ixN ds.length z1 = some j1) (h2 : DE K B t2 (Γ.set i (.own l (ds.set j1 d1))) (.int z2)) (g2 : ixN ds.length z2 = some j2)
    (k : ∀ H', Env K B H0 σ H' (Γ.set i (.own l ((ds.set j1 d1).set j2 d2))) → Dn.nx σ H') :
    tAsg (tTup tr) (gTup K 2 (gCons (gSub (tVar i) t1 rSetL) (gCons (gSub (tVar i) t2 rSetL) gNil))) Dn σ H :=
  h H0 σ H E _ fun vs H1 e1 hv => by
    obtain ⟨x, y, rfl, hx, hy⟩ := dpa_2 hv
    refine ⟨by show 2 ≤ sizeLine; exact big1000 (by decide), fun p hp => ?_⟩
    have ep := same_new (o := HO.tup [x, y]) hp
    have E1 := (E.grow e1).grow ep
    have hx1 := hx.ex (msk_ex ep)
    have hy1 := hy.ex (msk_ex ep)
    refine ⟨p, [x, y], rfl, .inl (.inl upd_same), rfl, x, [y], rfl, ?_⟩
    obtain ⟨a1, a2, us, a3, a4⟩ := E1.at_ i _ hi
    refine ⟨_, a1, h1 H0 σ _ E1 _ fun w1 H2 e2 hw1 => ⟨l, us, z1, j1, rfl, hw1.int_inv, e2 _ _ a3, by rw [a4.len]; exact g1, ?_⟩⟩
    have E2 := (E1.grow e2).write hi ((a4.ex (msk_ex e2)).set (hx1.ex (msk_ex e2)) j1)
    have hi2 : (Γ.set i (Sl.own l (ds.set j1 d1)))[i]? = some (.own l (ds.set j1 d1)) := List.getElem?_set_self (List.getElem?_eq_some_iff.mp hi).1
    have hy2 : Dp K (msk B (upd H2 l (.lst (us.set j1 x)))) y d2 := by rw [msk_upd a2]; exact hy1.ex (msk_ex e2)
    refine ⟨y, [], rfl, ?_⟩
    obtain ⟨b1, b2, ws, b3, b4⟩ := E2.at_ i _ hi2
    refine ⟨_, b1, h2 H0 σ _ E2 _ fun w2 H3 e3 hw2 => ⟨l, ws, z2, j2, rfl, hw2.int_inv, e3 _ _ b3, by rw [b4.len, List.length_set]; exact g2, rfl, ?_⟩⟩
    have E3 := (E2.grow e3).write hi2 ((b4.ex (msk_ex e3)).set (hy2.ex (msk_ex e3)) j2)
    rw [List.set_set] at E3
    exact k _ E3
/-- a, b, c = e1, [..], [..]: the last two new lists of one's own -/
theorem s_tup3 (E : Env K B H0 σ H Γ) {i j m : Nat} {ds1 ds2 : List D} (h1 : DE K B ta Γ d) (h2 : DL K B tb Γ ds1) (h3 : ∀ l, DL K (l :: B) tc Γ ds2) (ij : j ≠ m)
    (k : ∀ l l' σ' H', Env K (l' :: l :: B) H0 σ' H' (((Γ.set i (.dat d)).set j (.own l ds1)).set m (.own l' ds2)) → Dn.nx σ' H') :
    tAsg (tTup (tCons ta (tCons tb (tCons tc tNil)))) (gTup K 3 (gCons (gName i) (gCons (gName j) (gCons (gName m) gNil)))) Dn σ H :=
  h1 H0 σ H E _ fun x H1 e1 hx => h2 H0 σ H1 (E.grow e1) _ fun l vs H2 hl e2 hv ha => by
    obtain ⟨E2, em2⟩ := (E.grow e1).add hl e2 ⟨_, hv⟩
    refine h3 l H0 σ H2 E2 _ fun l' ws H3 hl' e3 hw hb => ?_
    obtain ⟨E3, em3⟩ := E2.add hl' e3 ⟨_, hw⟩
    refine ⟨by show 3 ≤ sizeLine; exact big1000 (by decide), fun p hp => ?_⟩
    have ep := same_new (o := HO.tup [x, .ref l, .ref l']) hp
    have E4 := E3.grow ep
    refine ⟨p, [x, .ref l, .ref l'], rfl, .inl (.inl upd_same), rfl, x, [.ref l, .ref l'], rfl, ?_⟩
    refine ⟨.ref l, [.ref l'], rfl, .ref l', [], rfl, rfl, ?_⟩
    have old : ∀ (q : Nat) l0 es, Γ[q]? = some (.own l0 es) → l0 ≠ l ∧ l0 ≠ l' := fun q l0 es hq => by
      have z := (E.at_ q _ hq).2.1
      refine ⟨fun e => (E.grow e1).nin hl (e ▸ z), fun e => E2.nin hl' (List.mem_cons_of_mem _ (e ▸ z))⟩
    have ne : l ≠ l' := fun e => E2.nin hl' (e ▸ List.mem_cons_self)
    have F1 := E4.setD i ((hx.ex em2).ex (em3.trans (msk_ex ep)))
    have n0 : H0 l = none := (E.ex.trans e1).free hl
    have n1 : H0 l' = none := E2.ex.free hl'
    have F2 := F1.setO j (l := l) (vs := vs) (ds := ds1) (List.mem_cons_of_mem _ List.mem_cons_self) n0 (fun q es hq => by
      rcases set_get hq with ⟨_, e, _⟩ | ⟨_, e⟩
      · cases e
      · exact absurd rfl (old q l es e).1) (ep _ _ (e3 _ _ hv)) (ha.ex (em3.trans (msk_ex ep)))
    refine k l l' _ _ (F2.setO m (l := l') (vs := ws) (ds := ds2) List.mem_cons_self n1 (fun q es hq => ?_) (ep _ _ hw) (hb.ex (msk_ex ep)))
    rcases set_get hq with ⟨_, e, _⟩ | ⟨_, e⟩
    · injection e with e5 e6; exact absurd e5.symm ne
    · rcases set_get e with ⟨_, e, _⟩ | ⟨_, e⟩
      · cases e
      · exact absurd rfl (old q l' es e).2
theorem q_tup3 (E : Env K B H0 σ H Γ) {i j m : Nat} {ds1 ds2 : List D} (h1 : DE K B ta Γ d) (h2 : DL K B tb Γ ds1) (h3 : ∀ l, DL K (l :: B) tc Γ ds2) (ij : j ≠ m)
    (k : ∀ l l' σ' H', Env K (l' :: l :: B) H0 σ' H' (((Γ.set i (.dat d)).set j (.own l ds1)).set m (.own l' ds2)) → tz Dn σ' H') :
    tSeq (tAsg (tTup (tCons ta (tCons tb (tCons tc tNil)))) (gTup K 3 (gCons (gName i) (gCons (gName j) (gCons (gName m) gNil))))) tz Dn σ H := s_tup3 (Dn := { Dn with nx := tz Dn }) E h1 h2 h3 ij k
section
variable {X : Cx}
theorem k_zipT (K : PySem.W.Frag) (hK : X.K = K) {e e2 : Expr} {ta : TA} {p pos tp kp cp : Pos} {es : List Expr} {kk j : Nat} (hg : Gl X "zip") (hm : X.mg "zip" = none) (ha : PA X [e, e2] ta)
    (he : backTo pos (starEach [e, e2] X.env) = (false, eval e X.env) :: backTo pos (starEach [e2] X.env) := by rfl) (hp : (backTo pos (starEach [e, e2] X.env)).any (·.1) = false := by rfl)
    (h1 : (backToKw pos (keywordEach [⟨some "strict", .Constant (.bool true) j cp, kp⟩] X.env)).all (·.1.isSome) = true := by rfl) (h2 : (backToKw pos (keywordEach [⟨some "strict", .Constant (.bool true) j cp, kp⟩] X.env)).any (·.1.isNone) = false := by rfl)
    (h3 : (backToKw pos (keywordEach [⟨some "strict", .Constant (.bool true) j cp, kp⟩] X.env)).filterMap (·.1) = [Str.ofString "strict"] := by rfl) :
    PI X (.Tuple es kk tp) (.Call (.Name "zip" p) [e, e2] [⟨some "strict", .Constant (.bool true) j cp, kp⟩] pos) (iZipT K ta) := hK ▸ pi_strictT hg hm ha he hp h1 h2 h3
end
/-- a slot for whatever it be -/
theorem Env.setR (E : Env K B H0 σ H Γ) (i : Nat) (v : V) : Env K B H0 (σ.set i (some v)) H (Γ.set i (.raw v)) := by
  refine ⟨by rw [List.length_set, List.length_set]; exact E.len, fun j s q => ?_, E.ex, E.bnd, fun j l ds q => ?_, fun j k l ds ds' q r => ?_⟩
  · rcases set_get q with ⟨e1, e2, e3⟩ | ⟨e1, e2⟩
    · subst e1 e2
      show (σ.set i (some v))[i]? = some (some v)
      rw [List.getElem?_set_self (by rw [E.len]; exact e3)]
    · rw [List.getElem?_set_ne e1]; exact E.at_ j s e2
  · rcases set_get q with ⟨_, e2, _⟩ | ⟨_, e2⟩
    · cases e2
    · exact E.new j l ds e2
  · rcases set_get q with ⟨_, e2, _⟩ | ⟨_, e2⟩
    · cases e2
    · rcases set_get r with ⟨_, e3, _⟩ | ⟨_, e3⟩
      · cases e3
      · exact E.inj j k l ds ds' e2 e3
/-- x.f = e, where x is one's own -/
theorem s_fldP {fs : List (Str × V)} {i : Nat} {x dx : Addr} {f : Str} (E : Env K B H0 σ H Γ) (hi : Γ[i]? = some (.raw (.ref x))) (h : DE K B te Γ d) (hH : H x = some (.ins C dx fs)) (c : Cls K C) (n : NoAttr K C f) (hl : fs.length < 1000) (hB : x ∈ B)
    (no : ∀ (j : Nat) es, Γ[j]? ≠ some (.own x es)) (k : ∀ v H', Env K B (msk [x] H0) σ H' Γ → Dp K (msk B H') v d → H' x = some (.ins C dx (putF f v fs)) → Dn.nx σ H') : sFld K (tVar i) te f Dn σ H :=
  h H0 σ H E _ fun v H1 e1 hv => by
    have E1 := E.grow e1
    refine ⟨_, E1.at_ i _ hi, x, C, dx, fs, rfl, e1 _ _ hH, c, n, hl, k v _ (E1.poke hB no) ?_ upd_same⟩
    rw [msk_upd hB]; exact hv
theorem q_fldP {fs : List (Str × V)} {i : Nat} {x dx : Addr} {f : Str} (E : Env K B H0 σ H Γ) (hi : Γ[i]? = some (.raw (.ref x))) (h : DE K B te Γ d) (hH : H x = some (.ins C dx fs)) (c : Cls K C) (n : NoAttr K C f) (hl : fs.length < 1000) (hB : x ∈ B)
    (no : ∀ (j : Nat) es, Γ[j]? ≠ some (.own x es)) (k : ∀ v H', Env K B (msk [x] H0) σ H' Γ → Dp K (msk B H') v d → H' x = some (.ins C dx (putF f v fs)) → tz Dn σ H') : tSeq (sFld K (tVar i) te f) tz Dn σ H := s_fldP (Dn := { Dn with nx := tz Dn }) E hi h hH c n hl hB no k
/-! ### a mixer as the one argument -/
theorem env_startM {N : List Str} {v : V} {n : Nat} (hb : Bnd B H) (h : MixV K (msk B H) C v ss) (hn : N.length - 1 = n) : Env K B H (start N [v]) H (.mix C ss :: List.replicate n .emp) := by
  have E := env_start (K := K) (N := N) (vs := [.non]) (ds := [.none]) hb (.cons .non .nil) hn
  exact E.setM 0 h
end
section
variable {P : Program} {w : World} {K : PySem.W.Frag} {mg : Str → Option Value} {base : Heap} {C : Addr}
theorem fn_okM {x qual p : Str} {st : Stmt} {f : Addr} {fd : FuncData} {N : List Str} {k n : Nat} {pre : List D → D → Prop} (F : Fun K x qual st f fd) (S : FnScope N [p] (defScope st)) (hn : N.length - 1 = n)
    (body : ∀ (cdv : Value) (A : Around) (outer : List PySem.Env) (s : Shared) (H : Hp) (v : V) (Q : VK) (E : XK) (B : List Addr) (ss : List D) (r : D), Room k (A.deeper (envOfC qual (defScope st) s.heap.objs.size f cdv)) → pre ss r →
      Env K B H (L2.start N [v]) H (.mix C ss :: List.replicate n .emp) → (∀ v H', Same H H' → Dp K (msk B H') v r → Q v H') →
      ∃ t, PSs (cxOf CX0 P w K mg base N qual (defScope st) f cdv A outer s H E).nox (defBody st) t ∧ t { nx := fun _ H' => Q .non H', rt := Q } (L2.start N [v]) H) : FnOk P w K mg base CX0 (k + 1) f fd [p] (spM K C pre) := by
  refine F.ok S (fun vs H Q E h => ?_) (fun cdv A outer s H vs Q E hr h => ?_)
  · obtain ⟨B, v, ss, r, rfl, _⟩ := h
    rfl
  · obtain ⟨B, v, ss, r, rfl, hb, hm, hp, q⟩ := h
    exact body cdv A outer s H v Q E B ss r hr hp (env_startM hb hm hn) q
end
end WS
namespace WS
open PySem PySem.Spec PyProof.Rows L2
local macro_rules | `(tactic| walk_at "num") => `(tactic| first | assumption | exact mulW (by assumption) (by assumption) (by decide))
local macro_rules | `(tactic| walk_at "de") => `(tactic| first
  | exact de_int | exact de_str | exact de_bl | exact de_non | exact de_var rfl | exact da_nil | exact do_none | assumption
  | ((with_reducible apply da_cons) <;> walk_at "de")
  | ((with_reducible apply de_tup) <;> first | walk_at "de" | (simp; done))
  | ((with_reducible apply de_op) <;> walk_at "de")
  | ((with_reducible show DE _ _ (tCB (rIsi _) (tCons _ (tCons (tC (.ty "int")) tNil))) _ _); apply isi_int; walk_at "de")
  | ((with_reducible show DE _ _ (tCB (rIsi _) (tCons _ (tCons (tC (.ty "bool")) tNil))) _ _); apply isi_bool; walk_at "de")
  | ((with_reducible show DE _ _ (tCB (rIsi _) (tCons _ (tCons (tC (.ty "list")) tNil))) _ _); apply isi_list; walk_at "de")
  | ((with_reducible show DE _ _ (tCB (rIsi _) (tCons _ (tCons (tC (.ty "tuple")) tNil))) _ _); apply isi_tup; walk_at "de")
  | ((with_reducible apply de_cb) <;> walk_at "de")
  | ((with_reducible apply de_neg) <;> walk_at "de")
  | ((with_reducible apply dt_test) <;> walk_at "de")
  | ((with_reducible apply dt_B) <;> walk_at "de")
  | ((with_reducible apply dt_not) <;> walk_at "de")
  | ((with_reducible apply de_notV) <;> walk_at "de")
  | ((with_reducible apply do_some) <;> walk_at "de")
  | exact ca_lenL | exact ca_lenT | exact ca_abs | exact ca_intI | exact ca_intB | exact ca_min2
  | exact od_i0 | exact od_b0
  | exact od_ixL rfl | exact od_ixT rfl
  | exact od_ixP0 (by assumption) | exact od_ixP1 (by assumption)
  | (refine od_i ?_; walk_at "num"))

theorem lt_ : PyData.eqv (.str "lift") (.str "turn") = false := by decide +kernel
theorem stC_lift (s : Stp) : ∃ nm ds, stC s = .tuple (.str nm :: ds) ∧ SeqAt.shaped (.str nm) = true ∧ PyData.eqv (.str nm) (.str "lift") = s.isLift ∧ PyData.eqv (.str nm) (.str "turn") = (match s with | .tn _ => true | _ => false) := by
  rcases s with (_ | _) | b | _
  · exact ⟨_, _, rfl, sh_lift, ll, lt_⟩
  · exact ⟨_, _, rfl, sh_lift, ll, lt_⟩
  · exact ⟨_, _, rfl, sh_turn, tl, tt⟩
  · exact ⟨_, _, rfl, sh_swap, sl, st⟩
theorem rg2 : rgD 0 (Int.toNat 2) = ([0, 1] : List Int).map PyData.int := rfl
def mD (M : Mx) : List D := [pL (M.a, M.b), pL (M.c, M.d)]
section
variable {P : Program} {w : World} {K : PySem.W.Frag} {mg : Str → Option Value} {base : Heap} {f : Addr} {fd : FuncData} {C : Addr}
abbrev s_Mixer_wide : Stmt := inClass (topS 20) 1
abbrev n_Mixer_wide : List Str := ["self"]
theorem sc_Mixer_wide : FnScope n_Mixer_wide ["self"] (defScope s_Mixer_wide) := ⟨rfl, rfl, rfl, by decide +kernel, rfl, by decide +kernel, by decide +kernel⟩
def pre_wide (ss : List D) (r : D) : Prop := r = .int 2
theorem ok_Mixer_wide (T : Bt mg) (T2 : Ct K mg C) (F : Fun K "wide" "Mixer.wide" s_Mixer_wide f fd) : FnOk P w K mg base CX0 1 f fd ["self"] (spM K C pre_wide) := by
  refine fn_okM F sc_Mixer_wide (n := 0) rfl (fun cdv A outer s H v Q E B ss r hr hp E0 q => ?_)
  subst hp
  refine ⟨_, (pss_one (ps_ret (k_fld K rfl (pv 0) rfl))), ?_⟩
  exact s_ret E0 (d := .int 2) (de_many T2 rfl) fun v H' E1 hv => q v H' E1.ex hv
abbrev s_Mixer_steps : Stmt := inClass (topS 20) 2
abbrev n_Mixer_steps : List Str := ["self", "row"]
theorem sc_Mixer_steps : FnScope n_Mixer_steps ["self"] (defScope s_Mixer_steps) := ⟨rfl, rfl, rfl, by decide +kernel, rfl, by decide +kernel, by decide +kernel⟩
def pre_steps (ss : List D) (r : D) : Prop := ∃ sts : List Stp, sts.length ≤ 1000 ∧ ss = sts.map stC ∧ r = .list (sts.map stD)
theorem ok_Mixer_steps (T : Bt mg) (T2 : Ct K mg C) (F : Fun K "steps" "Mixer.steps" s_Mixer_steps f fd) (F_opened : Fn P w K mg base "opened" 1 ["row"] (spD K pre_opened)) : FnOk P w K mg base CX0 2 f fd ["self"] (spM K C pre_steps) := by
  refine fn_okM F sc_Mixer_steps (n := 1) rfl (fun cdv A outer s H v Q E B ss r hr hp E0 q => ?_)
  obtain ⟨sts, hl, rfl, rfl⟩ := hp
  refine ⟨_, (pss_one (ps_ret (pe_lc (own := [("row", 1)]) rfl sc_Mixer_steps.nd (k_pl K rfl (k_fld K rfl (pv 0) rfl)) (blkOk_by (by kernel_rfl)) (fun _ _ _ _ _ => pg_name (i := 1) sc_Mixer_steps.nd rfl (by first | exact Or.inl rfl | exact Or.inr rfl)) (fun _ _ _ _ _ => pts_nil) (fun _ _ _ _ _ => (pe_fn F_opened (hr.mono (by decide)) (by rfl) (pa_cons (pv 1) pa_nil)))))), ?_⟩
  refine s_ret E0 (d := .list (sts.map stD)) (DL.de (dl_lc (xs := sts) (enc := stC) _ _ (di_list (de_rows T2 rfl)).dw (by omega) fun l x hx => ⟨dg_name (by simp), ?_⟩)) fun v H' E1 hv => q v H' E1.ex hv
  exact de_call (ds := [stC x]) (da_cons (de_var rfl) da_nil) ⟨x, rfl, rfl⟩
abbrev s_check_mixer : Stmt := topS 21
abbrev n_check_mixer : List Str := ["mixer"]
theorem sc_check_mixer : FnScope n_check_mixer ["mixer"] (defScope s_check_mixer) := ⟨rfl, rfl, rfl, by decide +kernel, rfl, by decide +kernel, by decide +kernel⟩
def pre_check_mixer (ss : List D) (r : D) : Prop := r = .none
theorem ok_check_mixer (T : Bt mg) (T2 : Ct K mg C) (F : Fun K "check_mixer" "check_mixer" s_check_mixer f fd) : FnOk P w K mg base CX0 1 f fd ["mixer"] (spM K C pre_check_mixer) := by
  refine fn_okM F sc_check_mixer (n := 0) rfl (fun cdv A outer s H v Q E B ss r hr hp E0 q => ?_)
  subst hp
  refine ⟨_, (pss_one (ps_if (pt_not (pt_val (pe_callB (k_isi K rfl) (by rfl) T.b_isinstance boot_isinstance (pa_cons (pv 0) (pa_cons (pe_glob (v := .ref C) rfl T2.gMixer rfl) pa_nil))))) (pss_one ps_never) pss_nil)), ?_⟩
  refine s_ifN E0 (dt_not (b := true) (dt_B (de_isiM T2 rfl))) fun H2 E2 => ?_
  exact q _ _ E2.ex .non
abbrev s_shifts_of : Stmt := topS 23
abbrev n_shifts_of : List Str := ["rows", "row"]
theorem sc_shifts_of : FnScope n_shifts_of ["rows"] (defScope s_shifts_of) := ⟨rfl, rfl, rfl, by decide +kernel, rfl, by decide +kernel, by decide +kernel⟩
def pre_shifts_of (ds : List D) (r : D) : Prop := ∃ sts : List Stp, sts.length ≤ 1000 ∧ ds = [.list (sts.map stC)] ∧ r = .int 0
theorem ok_shifts_of (T : Bt mg) (F : Fun K "shifts_of" "shifts_of" s_shifts_of f fd) : FnOk P w K mg base CX0 1 f fd ["rows"] (spD K pre_shifts_of) := by
  refine fn_ok F sc_shifts_of (n := 1) rfl (fun ds r h => ?_) (fun cdv A outer s H vs Q E B ds r hr hp E0 q => ?_)
  · obtain ⟨_, _, rfl, _⟩ := h; rfl
  obtain ⟨sts, hl, rfl, rfl⟩ := hp
  refine ⟨_, (pss_one (ps_ret (pe_callB (k_sum K rfl rfl) (by rfl) T.b_sum boot_sum (pa_cons (pe_lc (own := [("row", 1)]) rfl sc_shifts_of.nd (k_pl K rfl (pv 0)) (blkOk_by (by kernel_rfl)) (fun _ _ _ _ _ => pg_name (i := 1) sc_shifts_of.nd rfl (by first | exact Or.inl rfl | exact Or.inr rfl)) (fun _ _ _ _ _ => (pts_one (pt_cmpR (k_eq K rfl hr.units) (pe_ix (k_ix K rfl) (pv 1) pe_int (fun _ _ => rfl)) pe_str (nomark _)))) (fun _ _ _ _ _ => (pe_ix (k_ix K rfl) (pv 1) pe_int (fun _ _ => rfl)))) pa_nil)))), ?_⟩
  have e : ((sts.filter Stp.isLift).map fun _ => PyData.int 0) = (List.replicate (sts.filter Stp.isLift).length (0 : Int)).map PyData.int := by
    rw [List.map_const', List.map_replicate]
  refine s_ret E0 (d := .int 0) (DE.is (de_cb (ds := [.list ((List.replicate (sts.filter Stp.isLift).length (0 : Int)).map PyData.int)]) (da_cons (DL.de (DL.is (dl_lcF (xs := sts) (enc := stC) _ Stp.isLift (fun _ => .int 0) (di_list (de_var rfl)).dw (by omega) fun l x hx => ⟨dg_name (by simp), ?_, fun hf => ?_⟩) e)) da_nil) ca_sum) (by simp)) fun v H' E1 hv => q v H' E1.ex hv
  · obtain ⟨nm, es, e1, e2, e3, _⟩ := stC_lift x
    rw [e1]
    exact (dt_test (de_op (de_op (de_var rfl) de_int (od_ixT at0)) de_str (od_eq e2 sh_lift))).is e3
  · rcases x with (_ | _) | b | _
    · exact de_op (de_var rfl) de_int (od_ixT rfl)
    · exact de_op (de_var rfl) de_int (od_ixT rfl)
    · cases hf
    · cases hf
abbrev s_summed : Stmt := topS 22
abbrev n_summed : List Str := ["weights", "numbers", "weight", "number"]
theorem sc_summed : FnScope n_summed ["weights", "numbers"] (defScope s_summed) := ⟨rfl, rfl, rfl, by decide +kernel, rfl, by decide +kernel, by decide +kernel⟩
def pre_summed (ds : List D) (r : D) : Prop := ∃ a b x y : Int, ds = [.tuple [.int a, .int b], .list [.int x, .int y]] ∧ (Sz 30000 a ∧ Sz 30000 b ∧ Sz 11000 x ∧ Sz 11000 y) ∧ r = .int (a * x + b * y)
theorem ok_summed (T : Bt mg) (F : Fun K "summed" "summed" s_summed f fd) : FnOk P w K mg base CX0 1 f fd ["weights", "numbers"] (spD K pre_summed) := by
  refine fn_ok F sc_summed (n := 2) rfl (fun ds r h => ?_) (fun cdv A outer s H vs Q E B ds r hr hp E0 q => ?_)
  · obtain ⟨_, _, _, _, rfl, _⟩ := h; rfl
  obtain ⟨a, b, x, y, rfl, ⟨z1, z2, z3, z4⟩, rfl⟩ := hp
  refine ⟨_, (pss_one (ps_ret (pe_callB (k_sum K rfl rfl) (by rfl) T.b_sum boot_sum (pa_cons (pe_lc (own := [("weight", 2), ("number", 3)]) rfl sc_summed.nd (k_zipT K rfl (by rfl) T.b_zip (pa_cons (pv 0) (pa_cons (pv 1) pa_nil))) (blkOk_by (by kernel_rfl)) (fun _ _ _ _ _ => k_gtup K (n := 2) rfl rfl (pgs_cons (pg_name (i := 2) sc_summed.nd rfl (by first | exact Or.inl rfl | exact Or.inr rfl)) (pgs_cons (pg_name (i := 3) sc_summed.nd rfl (by first | exact Or.inl rfl | exact Or.inr rfl)) pgs_nil))) (fun _ _ _ _ _ => pts_nil) (fun _ _ _ _ _ => (pe_op op_mulW (pv 2) (pv 3)))) pa_nil)))), ?_⟩
  refine s_ret E0 (d := .int (a * x + b * y)) (DE.is (de_cb (ds := [.list ([a * x, b * y].map PyData.int)]) (da_cons (DL.de (DL.is (dl_lc (xs := [(a, x), (b, y)]) (enc := fun p => .tuple [.int p.1, .int p.2]) _ (fun p => .int (p.1 * p.2)) (DI.dw (DI.is (di_zipT (ds := [.int a, .int b]) (es := [.int x, .int y]) (de_var rfl) (de_var rfl) rfl) rfl)) (by simp) fun l p hp => ⟨dg_pair (by simp) (by simp), ?_⟩) rfl)) da_nil) ca_sum) (by simp)) fun v H' E1 hv => q v H' E1.ex hv
  simp only [List.mem_cons, List.not_mem_nil, or_false] at hp
  rcases hp with rfl | rfl
  · exact de_op (de_var rfl) (de_var rfl) (od_i (mulW z1 z3 (by decide)))
  · exact de_op (de_var rfl) (de_var rfl) (od_i (mulW z2 z4 (by decide)))
end
end WS
namespace WS
open PySem PySem.Spec PyProof.Rows L2
local macro_rules | `(tactic| walk_at "num") => `(tactic| first | assumption | exact mulW (by assumption) (by assumption) (by decide))
local macro_rules | `(tactic| walk_at "de") => `(tactic| first
  | exact de_int | exact de_str | exact de_bl | exact de_non | exact de_var rfl | exact da_nil | exact do_none | assumption
  | ((with_reducible apply da_cons) <;> walk_at "de")
  | ((with_reducible apply de_tup) <;> first | walk_at "de" | (simp; done))
  | ((with_reducible apply de_op) <;> walk_at "de")
  | ((with_reducible show DE _ _ (tCB (rIsi _) (tCons _ (tCons (tC (.ty "int")) tNil))) _ _); apply isi_int; walk_at "de")
  | ((with_reducible show DE _ _ (tCB (rIsi _) (tCons _ (tCons (tC (.ty "bool")) tNil))) _ _); apply isi_bool; walk_at "de")
  | ((with_reducible show DE _ _ (tCB (rIsi _) (tCons _ (tCons (tC (.ty "list")) tNil))) _ _); apply isi_list; walk_at "de")
  | ((with_reducible show DE _ _ (tCB (rIsi _) (tCons _ (tCons (tC (.ty "tuple")) tNil))) _ _); apply isi_tup; walk_at "de")
  | ((with_reducible apply de_cb) <;> walk_at "de")
  | ((with_reducible apply de_neg) <;> walk_at "de")
  | ((with_reducible apply dt_test) <;> walk_at "de")
  | ((with_reducible apply dt_B) <;> walk_at "de")
  | ((with_reducible apply dt_not) <;> walk_at "de")
  | ((with_reducible apply de_notV) <;> walk_at "de")
  | ((with_reducible apply do_some) <;> walk_at "de")
  | exact ca_lenL | exact ca_lenT | exact ca_abs | exact ca_intI | exact ca_intB | exact ca_min2
  | exact od_i0 | exact od_b0
  | exact od_ixL rfl | exact od_ixT rfl
  | exact od_ixP0 (by assumption) | exact od_ixP1 (by assumption)
  | (refine od_i ?_; walk_at "num"))

/-! ### runs of steps whose numbers stay small -/
structure SzM (n : Nat) (M : Mx) : Prop where
  a : Sz n M.a
  b : Sz n M.b
  c : Sz n M.c
  d : Sz n M.d
def Stp.okw : Stp → Prop
  | .lf _ w => Sz 30000 w
  | _ => True
def OkRun : List Stp → Mx → Prop
  | [], M => SzM 11000 M
  | s :: ss, M => SzM 11000 M ∧ s.okw ∧ OkRun ss (s.run M)
theorem OkRun.at_ : ∀ {ss : List Stp} {M : Mx} {i : Nat} {s : Stp}, OkRun ss M → ss[i]? = some s → SzM 11000 (runs (ss.take i) M) ∧ s.okw ∧ runs (ss.take (i + 1)) M = s.run (runs (ss.take i) M)
  | [], _, _, _, _, e => by simp at e
  | s :: ss, M, 0, s', h, e => by simp at e; subst e; exact ⟨h.1, h.2.1, rfl⟩
  | s :: ss, M, i + 1, s', h, e => by
    have := OkRun.at_ (i := i) (s := s') h.2.2 (by simpa using e)
    exact this
/-- a number of a pair -/
def colI (x : Int) (p : Int × Int) : Int := if x = 0 then p.1 else p.2
theorem atI_col {x : Int} (hx : x ∈ ([0, 1] : List Int)) (p : Int × Int) : atI [PyData.int p.1, PyData.int p.2] x = some (.int (colI x p)) := by
  simp only [List.mem_cons, List.not_mem_nil, or_false] at hx
  rcases hx with rfl | rfl <;> rfl
theorem shl0 (i : Int) : i * 2 ^ (0 : Int).toNat = i := by simp
theorem cshl0 {n : Nat} {i : Int} (h : Sz n i) (hn : n ≤ 100000000) : CShl i 0 := shl_ok (j := 0) h.lt (by omega)
/-- what a lift does, its row and its weights as numbers -/
theorem lf_parts (to : Bool) (w : Int) (M : Mx) (hw : Sz 30000 w) : ∃ (i : Int) (j : Nat) (a b : Int) (p : Int × Int), stC (.lf to w) = .tuple [.str "lift", .int i, .tuple [.int a, .int b], .int 0] ∧ ixN 2 i = some j ∧ atI (mD M) i = some (pL p) ∧ Sz 30000 a ∧ Sz 30000 b ∧
    mD ((Stp.lf to w).run M) = (mD M).set j (pL (p.1 + (a * M.a + b * M.c), p.2 + (a * M.b + b * M.d))) := by
  have z0 : Sz 30000 0 := ⟨Nat.two_pow_pos _⟩
  cases to
  · refine ⟨0, 0, 0, w, (M.a, M.b), rfl, rfl, rfl, z0, hw, ?_⟩
    show [pL (M.a + w * M.c, M.b + w * M.d), pL (M.c, M.d)] = [pL (M.a + (0 * M.a + w * M.c), M.b + (0 * M.b + w * M.d)), pL (M.c, M.d)]
    simp
  · refine ⟨1, 1, w, 0, (M.c, M.d), rfl, rfl, rfl, hw, z0, ?_⟩
    show [pL (M.a, M.b), pL (M.c + w * M.a, M.d + w * M.b)] = [pL (M.a, M.b), pL (M.c + (w * M.a + 0 * M.c), M.d + (w * M.b + 0 * M.d))]
    simp
theorem tn_parts (b : Bool) (M : Mx) : ∃ (j : Nat) (p : Int × Int), ixN 2 (b2n b) = some j ∧ atI (mD M) (b2n b) = some (pL p) ∧ mD ((Stp.tn b).run M) = (mD M).set j (pL (0 - p.1, 0 - p.2)) := by
  cases b
  · refine ⟨0, (M.a, M.b), rfl, rfl, ?_⟩
    show [pL (-M.a, -M.b), pL (M.c, M.d)] = [pL (0 - M.a, 0 - M.b), pL (M.c, M.d)]
    simp
  · refine ⟨1, (M.c, M.d), rfl, rfl, ?_⟩
    show [pL (M.a, M.b), pL (-M.c, -M.d)] = [pL (M.a, M.b), pL (0 - M.c, 0 - M.d)]
    simp
section
variable {P : Program} {w : World} {K : PySem.W.Frag} {mg : Str → Option Value} {base : Heap} {f : Addr} {fd : FuncData} {C : Addr}
abbrev s_numbers_of : Stmt := topS 24
abbrev n_numbers_of : List Str := ["rows", "wide", "found", "row", "more", "one", "other", "at", "line", "number"]
theorem sc_numbers_of : FnScope n_numbers_of ["rows", "wide"] (defScope s_numbers_of) := ⟨rfl, rfl, rfl, by decide +kernel, rfl, by decide +kernel, by decide +kernel⟩
def pre_numbers_of (ds : List D) (r : D) : Prop := ∃ sts : List Stp, sts.length ≤ 1000 ∧ OkRun sts Mx.one ∧ ds = [.list (sts.map stC), .int 2] ∧ r = .list (mD (runs sts Mx.one))
theorem ok_numbers_of (T : Bt mg) (F : Fun K "numbers_of" "numbers_of" s_numbers_of f fd) (F_summed : Fn P w K mg base "summed" 1 ["weights", "numbers"] (spD K pre_summed)) : FnOk P w K mg base CX0 2 f fd ["rows", "wide"] (spD K pre_numbers_of) := by
  refine fn_ok F sc_numbers_of (n := 8) rfl (fun ds r h => ?_) (fun cdv A outer s H vs Q E B ds r hr hp E0 q => ?_)
  · obtain ⟨_, _, _, rfl, _⟩ := h; rfl
  obtain ⟨sts, hl, hok, rfl, rfl⟩ := hp
  refine ⟨_, (pss_cons (ps_set (i := 2) sc_numbers_of.nd rfl (by first | exact Or.inl rfl | exact Or.inr rfl) (pe_lc (own := [("one", 5)]) rfl sc_numbers_of.nd (pi_range1 rfl T.b_range (pa_cons (pv 1) pa_nil)) (blkOk_by (by kernel_rfl)) (fun _ _ _ _ _ => pg_name (i := 5) sc_numbers_of.nd rfl (by first | exact Or.inl rfl | exact Or.inr rfl)) (fun _ _ _ _ _ => pts_nil) (fun _ _ _ _ _ => (pe_lc (own := [("other", 6)]) rfl sc_numbers_of.nd (pi_range1 rfl T.b_range (pa_cons (pv 1) pa_nil)) (blkOk_by (by kernel_rfl)) (fun _ _ _ _ _ => pg_name (i := 6) sc_numbers_of.nd rfl (by first | exact Or.inl rfl | exact Or.inr rfl)) (fun _ _ _ _ _ => pts_nil) (fun _ _ _ _ _ => (pe_callTy call_int1 (by rfl) T.b_int boot_int (pa_cons (pe_cmpR (k_eq K rfl hr.units) (pv 5) (pv 6) (nomark _)) pa_nil)))))))
      (pss_cons (ps_for PassesOwn.never rfl (k_pl K rfl (pv 0)) (pg_name (i := 3) sc_numbers_of.nd rfl (by first | exact Or.inl rfl | exact Or.inr rfl)) (pss_one (ps_if (pt_cmpR (k_eq K rfl hr.units) (pe_ix (k_ix K rfl) (pv 3) pe_int (fun _ _ => rfl)) pe_str (nomark _)) (pss_cons (ps_setLc (i := 4) (own := [("at", 7)]) rfl sc_numbers_of.nd rfl rfl (sw_true rfl rfl rfl (by decide +kernel)) (pi_range1 rfl T.b_range (pa_cons (pv 1) pa_nil)) (blkOk_by (by kernel_rfl)) (fun _ _ _ _ _ => pg_name (i := 7) sc_numbers_of.nd rfl (by first | exact Or.inl rfl | exact Or.inr rfl)) (fun _ _ _ _ _ => pts_nil) (fun _ _ _ _ _ => (pe_fn F_summed (hr.mono (by decide)) (by rfl) (pa_cons (pe_ix (k_ix K rfl) (pv 3) pe_int (fun _ _ => rfl)) (pa_cons (pe_lc (own := [("line", 8)]) rfl sc_numbers_of.nd (k_pl K rfl (pv 2)) (blkOk_by (by kernel_rfl)) (fun _ _ _ _ _ => pg_name (i := 8) sc_numbers_of.nd rfl (by first | exact Or.inl rfl | exact Or.inr rfl)) (fun _ _ _ _ _ => pts_nil) (fun _ _ _ _ _ => (pe_ix (k_ix K rfl) (pv 8) (pv 7) (fun _ _ => rfl)))) pa_nil)))))
      (pss_cons (ps_set (i := 2) sc_numbers_of.nd rfl (by first | exact Or.inl rfl | exact Or.inr rfl) (pe_lc (own := [("line", 8)]) rfl sc_numbers_of.nd (k_pl K rfl (pv 2)) (blkOk_by (by kernel_rfl)) (fun _ _ _ _ _ => pg_name (i := 8) sc_numbers_of.nd rfl (by first | exact Or.inl rfl | exact Or.inr rfl)) (fun _ _ _ _ _ => pts_nil) (fun _ _ _ _ _ => (pe_lc (own := [("number", 9)]) rfl sc_numbers_of.nd (k_pl K rfl (pv 8)) (blkOk_by (by kernel_rfl)) (fun _ _ _ _ _ => pg_name (i := 9) sc_numbers_of.nd rfl (by first | exact Or.inl rfl | exact Or.inr rfl)) (fun _ _ _ _ _ => pts_nil) (fun _ _ _ _ _ => (pe_op op_shlW (pv 9) (pe_ix (k_ix K rfl) (pv 3) pe_int (fun _ _ => rfl))))))))
      (pss_one (ps_asg (pe_lc (own := [("number", 9), ("other", 6)]) rfl sc_numbers_of.nd (k_zip K rfl (by rfl) T.b_zip (pa_cons (pe_ix (k_ix K rfl) (pv 2) (pe_ix (k_ix K rfl) (pv 3) pe_int (fun _ _ => rfl)) (fun _ _ => rfl)) (pa_cons (pv 4) pa_nil))) (blkOk_by (by kernel_rfl)) (fun _ _ _ _ _ => k_gtup K (n := 2) rfl rfl (pgs_cons (pg_name (i := 9) sc_numbers_of.nd rfl (by first | exact Or.inl rfl | exact Or.inr rfl)) (pgs_cons (pg_name (i := 6) sc_numbers_of.nd rfl (by first | exact Or.inl rfl | exact Or.inr rfl)) pgs_nil))) (fun _ _ _ _ _ => pts_nil) (fun _ _ _ _ _ => (pe_op op_add (pv 9) (pv 6)))) (pg_sub (pv 2) (pe_ix (k_ix K rfl) (pv 3) pe_int (fun _ _ => rfl)) set_list))))) (pss_one (ps_if (pt_cmpR (k_eq K rfl hr.units) (pe_ix (k_ix K rfl) (pv 3) pe_int (fun _ _ => rfl)) pe_str (nomark _)) (pss_one (ps_asg (pe_lc (own := [("number", 9)]) rfl sc_numbers_of.nd (k_pl K rfl (pe_ix (k_ix K rfl) (pv 2) (pe_ix (k_ix K rfl) (pv 3) pe_int (fun _ _ => rfl)) (fun _ _ => rfl))) (blkOk_by (by kernel_rfl)) (fun _ _ _ _ _ => pg_name (i := 9) sc_numbers_of.nd rfl (by first | exact Or.inl rfl | exact Or.inr rfl)) (fun _ _ _ _ _ => pts_nil) (fun _ _ _ _ _ => (pe_op op_sub pe_int (pv 9)))) (pg_sub (pv 2) (pe_ix (k_ix K rfl) (pv 3) pe_int (fun _ _ => rfl)) set_list))) (pss_one (ps_asg (pe_tup (pa_cons (pe_ix (k_ix K rfl) (pv 2) (pe_ix (k_ix K rfl) (pv 3) pe_int (fun _ _ => rfl)) (fun _ _ => rfl)) (pa_cons (pe_ix (k_ix K rfl) (pv 2) (pe_ix (k_ix K rfl) (pv 3) pe_int (fun _ _ => rfl)) (fun _ _ => rfl)) pa_nil))) (k_gtup K (n := 2) rfl rfl (pgs_cons (pg_sub (pv 2) (pe_ix (k_ix K rfl) (pv 3) pe_int (fun _ _ => rfl)) set_list) (pgs_cons (pg_sub (pv 2) (pe_ix (k_ix K rfl) (pv 3) pe_int (fun _ _ => rfl)) set_list) pgs_nil))))))))))
      (pss_one (ps_ret (pv 2))))), ?_⟩
  refine q_asgO (i := 2) E0 (ds := mD Mx.one) ?_ fun l σ1 H1 E1 => ?_
  · refine DL.is (dl_lc (xs := [0, 1]) (enc := PyData.int) _ (fun x => pL (if x = 0 then 1 else 0, if x = 0 then 0 else 1)) (DI.dw (DI.is (di_rng1 (n := 2) (de_var rfl) (by decide) (by decide)) rg2)) (by simp) fun l x hx => ⟨dg_name (by simp), ?_⟩) rfl
    refine DL.de (DL.is (dl_lc (xs := [0, 1]) (enc := PyData.int) _ (fun y => .int (if decide (x = y) = true then 1 else 0)) (DI.dw (DI.is (di_rng1 (n := 2) (de_var rfl) (by decide) (by decide)) rg2)) (by simp) fun l y hy => ⟨dg_name (by simp), ?_⟩) ?_)
    · refine de_cb (ds := [.bool (decide (x = y))]) (da_cons (DE.is (de_op (de_var rfl) (de_var rfl) (od_eq (d1 := .int x) (d2 := .int y) rfl rfl)) ?_) da_nil) ca_intB
      show PyData.bool (x == y) = _
      congr 1
    · simp only [List.mem_cons, List.not_mem_nil, or_false] at hx
      rcases hx with rfl | rfl <;> rfl
  refine q_forX E1 (vs := [3]) (di_list (ds := sts.map stC) (de_var rfl)) (fun i Γ => ∃ (l : Addr) (s3 s4 s5 s6 s7 s8 s9 : Sl), Γ = [.dat (.list (sts.map stC)), .dat (.int 2), .own l (mD (runs (sts.take i) Mx.one)), s3, s4, s5, s6, s7, s8, s9]) ⟨l, _, _, _, _, _, _, _, rfl⟩ (fun i d Γi hd hΓ => ?_) (fun B2 Γ2 σ2 H2 hΓ hs E2 => ?_)
  · obtain ⟨l2, s3, s4, s5, s6, s7, s8, s9, rfl⟩ := hΓ
    rw [List.getElem?_map] at hd
    cases hst : sts[i]? with
    | none => rw [hst] at hd; cases hd
    | some st =>
    rw [hst] at hd
    have hd := Option.some.inj hd
    subst hd
    obtain ⟨hM, hw, hrun⟩ := hok.at_ hst
    refine ⟨_, fun B' => dg_name (by simp), fun B' H0' σ' H' hs' E2 N hN X Y Z => ?_⟩
    rw [hrun] at hN
    generalize runs (sts.take i) Mx.one = M at *
    have sub : ∀ {l : Addr}, ∀ b ∈ B', b ∈ l :: B' := fun b hb => List.mem_cons_of_mem _ hb
    rcases st with ⟨to, k⟩ | b | _
    · obtain ⟨i0, j, a, b, p, e, hj, hat, za, zb, hres⟩ := lf_parts to k M hw
      rw [e] at E2
      refine s_if E2 (b := true) ((dt_test (de_op (de_op (de_var rfl) de_int (od_ixT rfl)) de_str (od_eq sh_lift sh_lift))).is ll) (fun _ H3 E3 => ?_) (fun z => nomatch z)
      refine q_asg E3 (i := 4) (d := .list ([0, 1].map fun x => .int (a * colI x (M.a, M.b) + b * colI x (M.c, M.d)))) (DL.de (dl_lc (xs := [0, 1]) (enc := PyData.int) _ _ (DI.dw (DI.is (di_rng1 (n := 2) (de_var rfl) (by decide) (by decide)) rg2)) (by simp) fun l x hx => ⟨dg_name (by simp), ?_⟩)) fun σ4 H4 E4 => ?_
      · refine de_call (ds := [.tuple [.int a, .int b], .list [.int (colI x (M.a, M.b)), .int (colI x (M.c, M.d))]]) (da_cons (de_op (de_var rfl) de_int (od_ixT rfl)) (da_cons (DL.de (DL.is (dl_lc (xs := [(M.a, M.b), (M.c, M.d)]) (enc := pL) _ (fun p => .int (colI x p)) (dw_own rfl) (by simp) fun l y hy => ⟨dg_name (by simp), ?_⟩) rfl)) da_nil)) ⟨_, _, _, _, rfl, ⟨za, zb, ?_, ?_⟩, rfl⟩
        · exact de_op (de_var rfl) (de_var rfl) (od_ixL (atI_col hx y))
        · unfold colI; split
          · exact hM.a
          · exact hM.b
        · unfold colI; split
          · exact hM.c
          · exact hM.d
      refine q_asgO E4 (i := 2) (ds := mD M) (DL.is (dl_lc (xs := [(M.a, M.b), (M.c, M.d)]) (enc := pL) _ pL (dw_own rfl) (by simp) fun l y hy => ⟨dg_name (by simp), ?_⟩) rfl) fun l3 σ5 H5 E5 => ?_
      · have zy : Sz 11000 y.1 ∧ Sz 11000 y.2 := by
          simp only [List.mem_cons, List.not_mem_nil, or_false] at hy
          rcases hy with rfl | rfl
          · exact ⟨hM.a, hM.b⟩
          · exact ⟨hM.c, hM.d⟩
        refine DL.de (DL.is (dl_lc (xs := [y.1, y.2]) (enc := PyData.int) _ (fun y => .int (y * 2 ^ (0 : Int).toNat)) (DI.dw (di_list (ds := [.int y.1, .int y.2]) (de_var rfl))) (by simp) fun l z hz => ⟨dg_name (by simp), ?_⟩) ?_)
        · refine de_op (de_var rfl) (de_op (de_var rfl) de_int (od_ixT rfl)) (od_i (cshl0 (n := 11000) ?_ (by decide)))
          simp only [List.mem_cons, List.not_mem_nil, or_false] at hz
          rcases hz with rfl | rfl
          · exact zy.1
          · exact zy.2
        · show [PyData.int (y.1 * 2 ^ (0 : Int).toNat), PyData.int (y.2 * 2 ^ (0 : Int).toNat)] = _
          rw [shl0, shl0]
      refine s_setI E5 (i := 2) (l := l3) (ds := mD M) (j := j) (z := i0) (d := pL (p.1 + (a * M.a + b * M.c), p.2 + (a * M.b + b * M.d))) rfl ?_ (de_op (de_var rfl) de_int (od_ixT rfl)) hj fun H6 E6 => ?_
      · refine DL.de (DL.is (dl_lc (xs := [(p.1, a * M.a + b * M.c), (p.2, a * M.b + b * M.d)]) (enc := fun p => .tuple [.int p.1, .int p.2]) _ (fun p => .int (p.1 + p.2)) (DI.dw (DI.is (di_zipS (ds := [.int p.1, .int p.2]) (es := [.int (a * M.a + b * M.c), .int (a * M.b + b * M.d)]) (de_ixOwn (j := i0) rfl (de_op (de_var rfl) de_int (od_ixT rfl)) hat) (de_var rfl) rfl) rfl)) (by simp) fun l y hy => ⟨dg_pair (by simp) (by simp), ?_⟩) rfl)
        exact de_op (de_var rfl) (de_var rfl) od_i0
      · rw [← hres] at E6
        exact hN _ _ _ _ ⟨l3, _, _, _, _, _, _, _, rfl⟩ sub E6
    · obtain ⟨j, p, hj, hat, hres⟩ := tn_parts b M
      refine s_if E2 (b := false) ((dt_test (de_op (de_op (de_var rfl) de_int (od_ixT rfl)) de_str (od_eq sh_turn sh_lift))).is tl) (fun z => nomatch z) (fun _ H3 E3 => ?_)
      refine s_if E3 (b := true) ((dt_test (de_op (de_op (de_var rfl) de_int (od_ixT rfl)) de_str (od_eq sh_turn sh_turn))).is tt) (fun _ H4 E4 => ?_) (fun z => nomatch z)
      refine s_setI E4 (i := 2) (l := l2) (ds := mD M) (j := j) (z := b2n b) (d := pL (0 - p.1, 0 - p.2)) rfl ?_ (de_op (de_var rfl) de_int (od_ixT rfl)) hj fun H6 E6 => ?_
      · refine DL.de (DL.is (dl_lc (xs := [p.1, p.2]) (enc := PyData.int) _ (fun y => .int (0 - y)) (DI.dw (di_list (ds := [.int p.1, .int p.2]) (de_ixOwn (j := b2n b) rfl (de_op (de_var rfl) de_int (od_ixT rfl)) hat))) (by simp) fun l y hy => ⟨dg_name (by simp), ?_⟩) rfl)
        exact de_op de_int (de_var rfl) od_i0
      · rw [← hres] at E6
        exact hN _ _ _ _ ⟨l2, _, _, _, _, _, _, _, rfl⟩ (fun b hb => hb) E6
    · refine s_if E2 (b := false) ((dt_test (de_op (de_op (de_var rfl) de_int (od_ixT rfl)) de_str (od_eq sh_swap sh_lift))).is sl) (fun z => nomatch z) (fun _ H3 E3 => ?_)
      refine s_if E3 (b := false) ((dt_test (de_op (de_op (de_var rfl) de_int (od_ixT rfl)) de_str (od_eq sh_swap sh_turn))).is st) (fun z => nomatch z) (fun _ H4 E4 => ?_)
      refine s_swap E4 (i := 2) (l := l2) (ds := mD M) (d1 := pL (M.c, M.d)) (d2 := pL (M.a, M.b)) (j1 := 0) (j2 := 1) (z1 := 0) (z2 := 1) rfl ?_ (de_op (de_var rfl) de_int (od_ixT rfl)) rfl (de_op (de_var rfl) de_int (od_ixT rfl)) rfl fun H6 E6 => ?_
      · exact da_cons (de_ixOwn (j := 1) rfl (de_op (de_var rfl) de_int (od_ixT rfl)) rfl) (da_cons (de_ixOwn (j := 0) rfl (de_op (de_var rfl) de_int (od_ixT rfl)) rfl) da_nil)
      · exact hN _ _ _ _ ⟨l2, _, _, _, _, _, _, _, rfl⟩ (fun b hb => hb) E6
  · obtain ⟨l2, s3, s4, s5, s6, s7, s8, s9, rfl⟩ := hΓ
    rw [List.length_map, List.take_length] at E2
    exact s_retO E2 rfl E0.bd (fun b hb => hs b (List.mem_cons_of_mem _ hb)) q
abbrev s_matrix : Stmt := topS 25
abbrev n_matrix : List Str := ["mixer", "under", "line", "number"]
theorem sc_matrix : FnScope n_matrix ["mixer"] (defScope s_matrix) := ⟨rfl, rfl, rfl, by decide +kernel, rfl, by decide +kernel, by decide +kernel⟩
def mF (M : Mx) : List D := [.list [.tuple [.int M.a, .int 1], .tuple [.int M.b, .int 1]], .list [.tuple [.int M.c, .int 1], .tuple [.int M.d, .int 1]]]
def pre_matrix (ss : List D) (r : D) : Prop := ∃ sts : List Stp, sts.length ≤ 1000 ∧ OkRun sts Mx.one ∧ ss = sts.map stC ∧ r = .list (mF (runs sts Mx.one))
theorem ok_matrix (T : Bt mg) (T2 : Ct K mg C) (F : Fun K "matrix" "matrix" s_matrix f fd) (F_check_mixer : Fn P w K mg base "check_mixer" 1 ["mixer"] (spM K C pre_check_mixer)) (F_shifts_of : Fn P w K mg base "shifts_of" 1 ["rows"] (spD K pre_shifts_of)) (F_numbers_of : Fn P w K mg base "numbers_of" 2 ["rows", "wide"] (spD K pre_numbers_of)) (F_fraction : Fn P w K mg base "fraction" 2 ["top", "under"] (spD K pre_fraction)) : FnOk P w K mg base CX0 3 f fd ["mixer"] (spM K C pre_matrix) := by
  refine fn_okM F sc_matrix (n := 3) rfl (fun cdv A outer s H v Q E B ss r hr hp E0 q => ?_)
  obtain ⟨sts, hl, hok, rfl, rfl⟩ := hp
  refine ⟨_, (pss_cons (ps_expr (pe_fn F_check_mixer (hr.mono (by decide)) (by rfl) (pa_cons (pv 0) pa_nil)))
      (pss_cons (ps_set (i := 1) sc_matrix.nd rfl (by first | exact Or.inl rfl | exact Or.inr rfl) (pe_op op_shlW pe_int (pe_fn F_shifts_of (hr.mono (by decide)) (by rfl) (pa_cons (k_fld K rfl (pv 0) rfl) pa_nil))))
      (pss_one (ps_ret (pe_lc (own := [("line", 2)]) rfl sc_matrix.nd (k_pl K rfl (pe_fn F_numbers_of (hr.mono (by decide)) (by rfl) (pa_cons (k_fld K rfl (pv 0) rfl) (pa_cons (k_fld K rfl (pv 0) rfl) pa_nil)))) (blkOk_by (by kernel_rfl)) (fun _ _ _ _ _ => pg_name (i := 2) sc_matrix.nd rfl (by first | exact Or.inl rfl | exact Or.inr rfl)) (fun _ _ _ _ _ => pts_nil) (fun _ _ _ _ _ => (pe_lc (own := [("number", 3)]) rfl sc_matrix.nd (k_pl K rfl (pv 2)) (blkOk_by (by kernel_rfl)) (fun _ _ _ _ _ => pg_name (i := 3) sc_matrix.nd rfl (by first | exact Or.inl rfl | exact Or.inr rfl)) (fun _ _ _ _ _ => pts_nil) (fun _ _ _ _ _ => (pe_fn F_fraction (hr.mono (by decide)) (by rfl) (pa_cons (pv 3) (pa_cons (pv 1) pa_nil))))))))))), ?_⟩
  refine q_drop E0 (d := .none) (de_callM rfl rfl) fun H1 E1 => ?_
  refine q_asg E1 (i := 1) (d := .int 1) ?_ fun σ2 H2 E2 => ?_
  · have z1 : Sz 1 1 := ⟨by decide⟩
    refine DE.is (de_op de_int (de_call (ds := [.list (sts.map stC)]) (d := .int 0) (da_cons (de_rows T2 rfl) da_nil) ⟨sts, hl, rfl, rfl⟩) (od_i (cshl0 z1 (by decide)))) ?_
    rw [shl0]
  refine s_ret E2 (d := .list (mF (runs sts Mx.one))) ?_ fun v H' E3 hv => q v H' E3.ex hv
  generalize hM : runs sts Mx.one = M
  refine DL.de (DL.is (dl_lc (xs := [(M.a, M.b), (M.c, M.d)]) (enc := pL) _ (fun p => .list [.tuple [.int p.1, .int 1], .tuple [.int p.2, .int 1]]) (DI.dw (di_list (ds := mD M) (de_call (ds := [.list (sts.map stC), .int 2]) (da_cons (de_rows T2 rfl) (da_cons (de_many T2 rfl) da_nil)) ⟨sts, hl, hok, rfl, by rw [hM]⟩))) (by simp) fun l p hp => ⟨dg_name (by simp), ?_⟩) rfl)
  refine DL.de (DL.is (dl_lc (xs := [p.1, p.2]) (enc := PyData.int) _ (fun x => .tuple [.int x, .int 1]) (DI.dw (di_list (ds := [.int p.1, .int p.2]) (de_var rfl))) (by simp) fun l x hx => ⟨dg_name (by simp), ?_⟩) rfl)
  exact de_call (ds := [.int x, .int 1]) (da_cons (de_var rfl) (da_cons (de_var rfl) da_nil)) ⟨x, rfl, rfl⟩
abbrev s_Mixeru_initu : Stmt := inClass (topS 20) 0
abbrev n_Mixeru_initu : List Str := ["self", "wide", "steps", "item"]
theorem sc_Mixeru_initu : FnScope n_Mixeru_initu ["self", "wide", "steps"] (defScope s_Mixeru_initu) := ⟨rfl, rfl, rfl, by decide +kernel, rfl, by decide +kernel, by decide +kernel⟩
def pre_init (ds ss : List D) : Prop := ∃ sts : List Stp, sts.length ≤ 1000 ∧ ds = sts.map stD ∧ ss = sts.map stC
theorem ok_Mixer_init (T : Bt mg) (T2 : Ct K mg C) (F : Fun K "__init__" "Mixer.__init__" s_Mixeru_initu f fd) (F_check_number : Fn P w K mg base "check_number" 3 ["number", "low", "high"] (spD K pre_check_number)) (F_is_step : Fn P w K mg base "is_step" 4 ["value", "wide"] (spD K pre_is_step)) (F_closed : Fn P w K mg base "closed" 1 ["step"] (spD K pre_closed)) : FnOk P w K mg base CX0 5 f fd ["self", "wide", "steps"] (spI K C pre_init) := by
  refine Fun.ok (sp := spI K C pre_init) F sc_Mixeru_initu (fun vs H Q E h => ?_) (fun cdv A outer s H vs Q E hr h => ?_)
  · obtain ⟨B, x, dx, v, ds, ss, rfl, _⟩ := h; rfl
  obtain ⟨B, x, dx, v, ds, ss, rfl, hx, hxB, hb, hv, ⟨sts, hl, rfl, rfl⟩, q⟩ := h
  refine ⟨_, (pss_cons (ps_expr (pe_fn F_check_number (hr.mono (by decide)) (by rfl) (pa_cons (pv 1) (pa_cons pe_int (pa_cons (pe_most T2.gMOST (by rfl)) pa_nil)))))
      (pss_cons (ps_if (pt_not (pt_val (pe_callB (k_isi K rfl) (by rfl) T.b_isinstance boot_isinstance (pa_cons (pv 2) (pa_cons (pe_bltn (v := .ty "list") (by rfl) T.b_list boot_list rfl) pa_nil))))) (pss_one ps_never) pss_nil)
      (pss_cons (ps_for PassesOwn.never rfl (k_pl K rfl (pv 2)) (pg_name (i := 3) sc_Mixeru_initu.nd rfl (by first | exact Or.inl rfl | exact Or.inr rfl)) (pss_one (ps_if (pt_not (pt_val (pe_fn F_is_step (hr.mono (by decide)) (by rfl) (pa_cons (pv 3) (pa_cons (pv 1) pa_nil))))) (pss_one ps_never) pss_nil)))
      (pss_cons (ps_fld (pv 0) (pv 1) rfl)
      (pss_one (ps_fld (pv 0) (pe_lc (own := [("item", 3)]) rfl sc_Mixeru_initu.nd (k_pl K rfl (pv 2)) (blkOk_by (by kernel_rfl)) (fun _ _ _ _ _ => pg_name (i := 3) sc_Mixeru_initu.nd rfl (by first | exact Or.inl rfl | exact Or.inr rfl)) (fun _ _ _ _ _ => pts_nil) (fun _ _ _ _ _ => (pe_fn F_closed (hr.mono (by decide)) (by rfl) (pa_cons (pv 3) pa_nil)))) rfl)))))), ?_⟩
  have E0 : Env K B H (start n_Mixeru_initu [.ref x, .int 2, v]) H [.raw (.ref x), .dat (.int 2), .dat (.list (sts.map stD)), .emp] :=
    (env_start (K := K) (N := n_Mixeru_initu) (vs := [.non, .int 2, v]) (ds := [.none, .int 2, .list (sts.map stD)]) (n := 1) hb (.cons .non (.cons (.int 2) (.cons hv .nil))) rfl).setR 0 (.ref x)
  refine q_drop E0 (d := .none) (de_call (ds := [.int 2, .int 1, .int 4]) (da_cons (de_var rfl) (da_cons de_int (da_cons de_int da_nil))) ⟨rfl, rfl⟩) fun H1 E1 => ?_
  refine q_ifN E1 (dt_not (b := true) (dt_B (isi_list (de_var rfl)))) fun H2 E2 => ?_
  refine q_forX E2 (vs := [3]) (di_list (ds := sts.map stD) (de_var rfl)) (fun i Γ => ∃ s3 : Sl, Γ = [.raw (.ref x), .dat (.int 2), .dat (.list (sts.map stD)), s3] ∧ ∀ l ds, s3 ≠ .own l ds) ⟨_, rfl, fun _ _ e => nomatch e⟩ (fun i d Γi hd hΓ => ?_) (fun B3 Γ3 σ3 H3 hΓ hs E3 => ?_)
  · obtain ⟨s3, rfl, _⟩ := hΓ
    rw [List.getElem?_map] at hd
    cases hst : sts[i]? with
    | none => rw [hst] at hd; cases hd
    | some st =>
    rw [hst] at hd
    have hd := Option.some.inj hd
    subst hd
    refine ⟨_, fun B' => dg_name (by simp), fun B' H0' σ' H' hs' E4 N hN X Y Z => ?_⟩
    refine s_ifN E4 (dt_not (b := true) (dt_B (de_call (ds := [stD st, .int 2]) (da_cons (de_var rfl) (da_cons (de_var rfl) da_nil)) ⟨st, rfl, rfl⟩))) fun H5 E5 => ?_
    exact hN _ _ _ _ ⟨.dat (stD st), rfl, fun _ _ e => by cases e⟩ (fun b hb => hb) E5
  · obtain ⟨s3, rfl, no⟩ := hΓ
    have own0 : ∀ (i : Nat) ds, ([.raw (.ref x), .dat (.int 2), .dat (.list (sts.map stD)), s3] : List Sl)[i]? ≠ some (.own x ds) := fun i ds e => by
      rcases i with _ | _ | _ | _ | i
      · cases e
      · cases e
      · cases e
      · exact no x ds (Option.some.inj e)
      · cases e
    refine q_fldP E3 (i := 0) (d := .int 2) rfl (de_var rfl) (E3.ex _ _ hx) T2.cls T2.nMany (by decide) (hs x hxB) own0 fun u H4 E4 hu hx4 => ?_
    rw [hu.int_inv] at hx4
    refine s_fldP E4 (i := 0) (d := .list (sts.map stC)) rfl ?_ hx4 T2.cls T2.nRows (by decide) (hs x hxB) own0 fun r H5 E5 hr5 hx5 => ?_
    · refine DL.de (dl_lc (xs := sts) (enc := stD) _ stC (DI.dw (di_list (de_var rfl))) (by omega) fun l y hy => ⟨dg_name (by simp), ?_⟩)
      exact de_call (ds := [stD y]) (da_cons (de_var rfl) da_nil) ⟨y, rfl, rfl⟩
    · refine q r _ (fun a o na ha => ?_) hx5 (hr5.ex (msk_sub hs))
      refine E5.ex a o ?_
      have n1 : a ∉ [x] := by simpa using na
      rw [msk_out n1, msk_out n1]; exact ha
end
end WS
/-! The steps of lifts_for stay small. -/
namespace WS
structure SzP (n : Nat) (p : P) : Prop where
  x : Sz n p.1
  y : Sz n p.2
theorem SzP.mono {n m : Nat} {x : P} (h : SzP n x) (k : n ≤ m) : SzP m x := ⟨h.x.mono k, h.y.mono k⟩
theorem SzM.mono {n m : Nat} {M : Mx} (h : SzM n M) (k : n ≤ m) : SzM m M := ⟨h.a.mono k, h.b.mono k, h.c.mono k, h.d.mono k⟩
theorem szM_of {n : Nat} {x y : P} (h : SzP n x) (k : SzP n y) : SzM n (mxOf x y) := ⟨h.x, h.y, k.x, k.y⟩
theorem sz_of_neg {n : Nat} {i : Int} (h : Sz n (-i)) : Sz n i := by have := h.neg; rwa [Int.neg_neg] at this
theorem SzM.tn {n : Nat} {M : Mx} (b : Bool) (h : SzM n M) : SzM n ((Stp.tn b).run M) := by
  cases b
  · exact ⟨h.a.neg, h.b.neg, h.c, h.d⟩
  · exact ⟨h.a, h.b, h.c.neg, h.d.neg⟩
theorem SzM.of_tn {n : Nat} {M : Mx} (b : Bool) (h : SzM n ((Stp.tn b).run M)) : SzM n M := by
  cases b
  · exact ⟨sz_of_neg h.a, sz_of_neg h.b, h.c, h.d⟩
  · exact ⟨h.a, h.b, sz_of_neg h.c, sz_of_neg h.d⟩
theorem SzM.sw {n : Nat} {M : Mx} (h : SzM n M) : SzM n (Stp.sw.run M) := ⟨h.c, h.d, h.a, h.b⟩
theorem okRun_append : ∀ {s t : List Stp} {M : Mx}, OkRun s M → OkRun t (runs s M) → OkRun (s ++ t) M
  | [], _, _, _, h => h
  | x :: s, t, M, h, k => ⟨h.1, h.2.1, okRun_append h.2.2 k⟩
theorem okRun_nolift : ∀ {s : List Stp} {M : Mx}, (∀ x ∈ s, x.isLift = false) → SzM 11000 M → OkRun s M
  | [], _, _, h => h
  | .lf b w :: s, M, n, h => by have := n _ List.mem_cons_self; cases this
  | .tn b :: s, M, n, h => ⟨h, trivial, okRun_nolift (fun x hx => n x (List.mem_cons_of_mem _ hx)) (h.tn b)⟩
  | .sw :: s, M, n, h => ⟨h, trivial, okRun_nolift (fun x hx => n x (List.mem_cons_of_mem _ hx)) h.sw⟩
theorem okRun_two {here : Bool} {kept gone goal : P} {M N : Mx} (hr : runs (two here kept gone goal) M = N) (hM : SzM 10500 M) (hN : SzM 10500 N) (hw : Sz 30000 (weightOf kept gone goal)) : OkRun (two here kept gone goal) M := by
  unfold two at hr ⊢
  refine ⟨hM.mono (by decide), hw, ?_⟩
  by_cases h : signOf kept gone goal < 0
  · rw [if_pos h] at hr ⊢
    have hr : (Stp.tn (!here)).run ((Stp.lf (!here) (weightOf kept gone goal)).run M) = N := hr
    have h2 : SzM 10500 ((Stp.tn (!here)).run ((Stp.lf (!here) (weightOf kept gone goal)).run M)) := by rw [hr]; exact hN
    exact ⟨h2.of_tn.mono (by decide), trivial, h2.mono (by decide)⟩
  · rw [if_neg h] at hr ⊢
    have hr : (Stp.lf (!here) (weightOf kept gone goal)).run M = N := hr
    show SzM 11000 _
    rw [hr]; exact hN.mono (by decide)
theorem sz_weight {kept gone goal : P} (h1 : dt kept gone = 1 ∨ dt kept gone = -1) (h2 : dt kept goal = 1 ∨ dt kept goal = -1) (z : SzP 10500 gone) (z' : SzP 10500 goal) : Sz 30000 (weightOf kept gone goal) := by
  have s : Sz 21001 (dt goal gone) := sz_dt z'.x z'.y z.x z.y
  have e : (weightOf kept gone goal).natAbs = (dt goal gone).natAbs := by
    unfold weightOf signOf
    rw [Int.natAbs_mul, Int.natAbs_mul, Int.natAbs_mul]
    rcases h1 with h1 | h1 <;> rcases h2 with h2 | h2 <;> rw [h1, h2] <;> simp
  have s := s.mono (m := 30000) (by decide)
  exact ⟨by rw [e]; exact s.lt⟩
theorem okRun_oneL {p goal l0 l1 : P} (hd : dt l0 l1 = 1 ∨ dt l0 l1 = -1) (hp : Lk l0 p ∨ Lk l1 p) (hg : dt p goal = 1 ∨ dt p goal = -1) (z0 : SzP 10500 l0) (z1 : SzP 10500 l1) (zg : SzP 10500 goal) : OkRun (oneL p goal l0 l1) (mxOf l0 l1) := by
  unfold oneL
  by_cases h : isAt l1 p = true
  · rw [if_pos h]
    have k := dt_lk ((isAt_iff _ _).mp h).symm hg
    have hd' : dt l1 l0 = 1 ∨ dt l1 l0 = -1 := by rw [dt_swap]; omega
    exact okRun_two (two_true hd' k) (szM_of z0 z1) (szM_of zg z1) (sz_weight hd' k z0 zg)
  · rw [if_neg h]
    have h1 : Lk l0 p := hp.resolve_right fun k => h ((isAt_iff _ _).mpr k)
    have k := dt_lk h1.symm hg
    exact okRun_two (two_false hd k) (szM_of z0 z1) (szM_of z0 zg) (sz_weight hd k z1 zg)
theorem go_okRun : ∀ (r : List P) (p fin l0 l1 : P), dt l0 l1 = 1 ∨ dt l0 l1 = -1 → Lk l0 p ∨ Lk l1 p → Ch p r → (dt (lastOf p r) fin = 1 ∨ dt (lastOf p r) fin = -1) → SzP 10500 l0 → SzP 10500 l1 → (∀ x ∈ r, SzP 10500 x) → SzP 10500 fin → OkRun (go (p :: r) fin l0 l1).1 (mxOf l0 l1) ∧ SzP 10500 (go (p :: r) fin l0 l1).2.1 ∧ SzP 10500 (go (p :: r) fin l0 l1).2.2 := by
  intro r
  induction r with
  | nil =>
    intro p fin l0 l1 hd hp hc hf z0 z1 zr zf
    show OkRun (oneL p fin l0 l1 ++ []) _ ∧ SzP 10500 (if isAt l1 p = true then fin else l0) ∧ SzP 10500 (if isAt l1 p = true then l1 else fin)
    rw [List.append_nil]
    refine ⟨okRun_oneL hd hp hf z0 z1 zf, ?_, ?_⟩
    · split
      · exact zf
      · exact z0
    · split
      · exact z1
      · exact zf
  | cons q r ih =>
    intro p fin l0 l1 hd hp hc hf z0 z1 zr zf
    obtain ⟨hq, hc⟩ := hc
    have zq := zr q List.mem_cons_self
    have key : ∀ l0' l1' : P, l0' = (if isAt l1 p = true then q else l0) → l1' = (if isAt l1 p = true then l1 else q) → runs (oneL p q l0 l1) (mxOf l0 l1) = mxOf l0' l1' ∧ (dt l0' l1' = 1 ∨ dt l0' l1' = -1) ∧ (Lk l0' q ∨ Lk l1' q) ∧ SzP 10500 l0' ∧ SzP 10500 l1' := by
      intro l0' l1' e0 e1
      subst e0 e1
      unfold oneL
      by_cases h : isAt l1 p = true
      · rw [if_pos h, if_pos h, if_pos h]
        have k := dt_lk ((isAt_iff _ _).mp h).symm hq
        exact ⟨two_true (by rw [dt_swap]; omega) k, by rw [dt_swap]; omega, .inl (.inl rfl), zq, z1⟩
      · rw [if_neg h, if_neg h, if_neg h]
        have h1 : Lk l0 p := hp.resolve_right fun k => h ((isAt_iff _ _).mpr k)
        exact ⟨two_false hd (dt_lk h1.symm hq), dt_lk h1.symm hq, .inr (.inl rfl), z0, zq⟩
    obtain ⟨k1, k2, k3, k4, k5⟩ := key _ _ rfl rfl
    obtain ⟨i1, i2⟩ := ih q fin _ _ k2 k3 hc hf k4 k5 (fun x hx => zr x (List.mem_cons_of_mem _ hx)) zf
    have e : go (p :: q :: r) fin l0 l1 = (oneL p q l0 l1 ++ (go (q :: r) fin (if isAt l1 p = true then q else l0) (if isAt l1 p = true then l1 else q)).1, (go (q :: r) fin (if isAt l1 p = true then q else l0) (if isAt l1 p = true then l1 else q)).2) := rfl
    rw [e]
    refine ⟨okRun_append (okRun_oneL hd hp hq z0 z1 zq) (by rw [k1]; exact i1), i2⟩
theorem leastWay_sz {g h : P} (zg : SzP 100 g) (zh : SzP 100 h) : (leastWay g h).length ≤ 101 ∧ ∀ x ∈ leastWay g h, SzP 10500 x := by
  have wd : ∀ x : P, SzP 100 x → (wayD x).length ≤ 101 ∧ ∀ z ∈ wayD x, SzP 10500 z := fun x z => by
    obtain ⟨a, b⟩ := sz_placed z.x z.y
    obtain ⟨c, d⟩ := way_sz (placed_nn x) a b
    exact ⟨c, fun y hy => ⟨(d y hy).1, (d y hy).2⟩⟩
  have wb : ∀ x : P, SzP 100 x → (wayB x).length ≤ 101 ∧ ∀ z ∈ wayB x, SzP 10500 z := fun x z => by
    obtain ⟨a, b⟩ := sz_placed z.x z.y
    obtain ⟨a', b'⟩ := sz_placed (x := flip (placed x)) b a
    obtain ⟨c, d⟩ := way_sz (placed_nn (flip (placed x))) a' b'
    unfold wayB
    refine ⟨by rw [List.length_map]; exact c, fun y hy => ?_⟩
    obtain ⟨y', h1, rfl⟩ := List.mem_map.mp hy
    exact ⟨(d y' h1).2, (d y' h1).1⟩
  cases e : unitP g h with
  | true =>
    have ew : leastWay g h = [] := by unfold leastWay; rw [e]; rfl
    rw [ew]
    exact ⟨by decide, fun x hx => by cases hx⟩
  | false =>
    have := (leastWay_mem e).1
    rw [ways_eq] at this
    simp only [List.mem_cons, List.not_mem_nil, or_false] at this
    rcases this with k | k | k | k <;> rw [k]
    · exact wd g zg
    · exact wd h zh
    · exact wb g zg
    · exact wb h zh
theorem szP_one : SzP 10500 (1, 0) ∧ SzP 10500 (0, 1) := by
  have z1 : Sz 10500 1 := Sz.mono (n := 1) ⟨by decide⟩ (by decide)
  have z0 : Sz 10500 0 := Sz.mono (n := 1) ⟨by decide⟩ (by decide)
  exact ⟨⟨z1, z0⟩, ⟨z0, z1⟩⟩
theorem endSteps_nolift (g h l0 l1 : P) : ∀ x ∈ endSteps g h l0 l1, x.isLift = false := by
  have t : ∀ l0 l1 : P, ∀ x ∈ endTurns g h l0 l1, x.isLift = false := fun l0 l1 x hx => by
    unfold endTurns at hx
    rcases List.mem_append.mp hx with k | k
    · split at k
      · cases k
      · rw [List.mem_singleton.mp k]; rfl
    · split at k
      · cases k
      · rw [List.mem_singleton.mp k]; rfl
  intro x hx
  unfold endSteps at hx
  split at hx
  · exact t _ _ x hx
  · rcases List.mem_cons.mp hx with k | k
    · rw [k]; rfl
    · exact t _ _ x k
theorem two_len (here : Bool) (kept gone goal : P) : (two here kept gone goal).length ≤ 2 := by
  unfold two; split <;> simp
theorem go_len : ∀ (w : List P) (fin l0 l1 : P), (go w fin l0 l1).1.length ≤ 2 * w.length
  | [], _, _, _ => Nat.le_refl _
  | p :: r, fin, l0, l1 => by
    have := go_len r fin (if isAt l1 p = true then r.headD fin else l0) (if isAt l1 p = true then l1 else r.headD fin)
    have h : (oneL p (r.headD fin) l0 l1).length ≤ 2 := by unfold oneL; split <;> exact two_len _ _ _ _
    show (oneL p (r.headD fin) l0 l1 ++ (go r fin _ _).1).length ≤ _
    rw [List.length_append, List.length_cons]
    omega
theorem endSteps_len (g h l0 l1 : P) : (endSteps g h l0 l1).length ≤ 3 := by
  have t : ∀ l0 l1 : P, (endTurns g h l0 l1).length ≤ 2 := fun l0 l1 => by
    unfold endTurns; split <;> split <;> simp
  unfold endSteps
  split
  · exact Nat.le_succ_of_le (t _ _)
  · exact Nat.succ_le_succ (t _ _)
theorem liftsFor_len {g h : P} (zg : SzP 100 g) (zh : SzP 100 h) : (liftsFor g h).length ≤ 1000 := by
  have h1 := (leastWay_sz zg zh).1
  unfold liftsFor
  simp only
  rw [List.length_append]
  have h2 := go_len (leastWay g h) (finOf g h (lastOf (0, 0) (leastWay g h))) (1, 0) (0, 1)
  have h3 := endSteps_len g h (go (leastWay g h) (finOf g h (lastOf (0, 0) (leastWay g h))) (1, 0) (0, 1)).2.1 (go (leastWay g h) (finOf g h (lastOf (0, 0) (leastWay g h))) (1, 0) (0, 1)).2.2
  omega
theorem liftsFor_okRun {g h : P} (hu : dt g h = 1 ∨ dt g h = -1) (zg : SzP 100 g) (zh : SzP 100 h) : OkRun (liftsFor g h) Mx.one := by
  have zw := (leastWay_sz zg zh).2
  have zg' := zg.mono (m := 10500) (by decide)
  have zh' := zh.mono (m := 10500) (by decide)
  have zf : ∀ p, SzP 10500 (finOf g h p) := fun p => by
    unfold finOf; split
    · exact zh'
    · exact zg'
  obtain ⟨zo, zo'⟩ := szP_one
  unfold liftsFor
  simp only
  cases e : unitP g h with
  | true =>
    have ew : leastWay g h = [] := by unfold leastWay; rw [e]; rfl
    rw [ew]
    refine okRun_append (s := []) (M := Mx.one) ?_ (okRun_nolift (endSteps_nolift _ _ _ _) ?_)
    · exact (szM_of zo zo').mono (by decide)
    · exact (szM_of zo zo').mono (by decide)
  | false =>
    have hl : ∃ x r, leastWay g h = x :: r ∧ (x = (1, 0) ∨ x = (0, 1)) ∧ Ch x r ∧ (Lk g (lastOf x r) ∨ Lk h (lastOf x r)) := by
      rcases leastWay_leads hu e with ⟨x, r, a, b, c, d⟩ | ⟨x, r, a, b, c, d⟩
      · exact ⟨x, r, a, b, c, .inl d⟩
      · exact ⟨x, r, a, b, c, .inr d⟩
    obtain ⟨x, r, ew, hx, hc, hl⟩ := hl
    rw [ew] at zw ⊢
    rw [lastOf_eq]
    have hf : dt (lastOf x r) (finOf g h (lastOf x r)) = 1 ∨ dt (lastOf x r) (finOf g h (lastOf x r)) = -1 := by
      unfold finOf
      by_cases k : isAt g (lastOf x r) = true
      · rw [if_pos k]
        exact dt_lk ((isAt_iff _ _).mp k) hu
      · rw [if_neg k]
        have k' : Lk h (lastOf x r) := hl.resolve_left fun z => k ((isAt_iff _ _).mpr z)
        exact dt_lk k' (by rw [dt_swap]; omega)
    have hx' : Lk (1, 0) x ∨ Lk (0, 1) x := by
      rcases hx with hx | hx <;> subst hx
      · exact .inl (.inl rfl)
      · exact .inr (.inl rfl)
    obtain ⟨o1, o2, o3⟩ := go_okRun r x (finOf g h (lastOf x r)) (1, 0) (0, 1) (.inl rfl) hx' hc hf zo zo' (fun y hy => zw y (List.mem_cons_of_mem _ hy)) (zf _)
    obtain ⟨q1, _⟩ := go_ok r x (finOf g h (lastOf x r)) (1, 0) (0, 1) (.inl rfl) hx' hc hf
    refine okRun_append o1 (okRun_nolift (endSteps_nolift _ _ _ _) ?_)
    rw [show Mx.one = mxOf (1, 0) (0, 1) from rfl, q1]
    exact (szM_of o2 o3).mono (by decide)
end WS
namespace WS
open PySem PySem.Spec PyProof.Rows L2
local macro_rules | `(tactic| walk_at "num") => `(tactic| first | assumption | exact mulW (by assumption) (by assumption) (by decide))
local macro_rules | `(tactic| walk_at "de") => `(tactic| first
  | exact de_int | exact de_str | exact de_bl | exact de_non | exact de_var rfl | exact da_nil | exact do_none | assumption
  | ((with_reducible apply da_cons) <;> walk_at "de")
  | ((with_reducible apply de_tup) <;> first | walk_at "de" | (simp; done))
  | ((with_reducible apply de_op) <;> walk_at "de")
  | ((with_reducible show DE _ _ (tCB (rIsi _) (tCons _ (tCons (tC (.ty "int")) tNil))) _ _); apply isi_int; walk_at "de")
  | ((with_reducible show DE _ _ (tCB (rIsi _) (tCons _ (tCons (tC (.ty "bool")) tNil))) _ _); apply isi_bool; walk_at "de")
  | ((with_reducible show DE _ _ (tCB (rIsi _) (tCons _ (tCons (tC (.ty "list")) tNil))) _ _); apply isi_list; walk_at "de")
  | ((with_reducible show DE _ _ (tCB (rIsi _) (tCons _ (tCons (tC (.ty "tuple")) tNil))) _ _); apply isi_tup; walk_at "de")
  | ((with_reducible apply de_cb) <;> walk_at "de")
  | ((with_reducible apply de_neg) <;> walk_at "de")
  | ((with_reducible apply dt_test) <;> walk_at "de")
  | ((with_reducible apply dt_B) <;> walk_at "de")
  | ((with_reducible apply dt_not) <;> walk_at "de")
  | ((with_reducible apply de_notV) <;> walk_at "de")
  | ((with_reducible apply do_some) <;> walk_at "de")
  | exact ca_lenL | exact ca_lenT | exact ca_abs | exact ca_intI | exact ca_intB | exact ca_min2
  | exact od_i0 | exact od_b0
  | exact od_ixL rfl | exact od_ixT rfl
  | exact od_ixP0 (by assumption) | exact od_ixP1 (by assumption)
  | (refine od_i ?_; walk_at "num"))

section
variable {K : PySem.W.Frag} {B : List Addr} {H0 H H' : Hp} {σ : L2.St} {Γ : List Sl} {te ta : TE} {C : Addr} {ss : List D} {Dn : Ends}
theorem s_retX (E : Env K B H0 σ H Γ) (h : DX K B C te Γ ss) (k : ∀ v H', Env K B H0 σ H' Γ → MixV K (msk B H') C v ss → Dn.rt v H') : tRet te Dn σ H :=
  h H0 σ H E _ fun v H1 e1 hv => k v H1 (E.grow e1) hv
end
section
variable {P : Program} {w : World} {K : PySem.W.Frag} {mg : Str → Option Value} {base : Heap} {C : Addr}
theorem fn_okX {x qual : Str} {st : Stmt} {f : Addr} {fd : FuncData} {N ps : List Str} {k n : Nat} {pre : List D → List D → Prop} (F : Fun K x qual st f fd) (S : FnScope N ps (defScope st)) (hn : N.length - ps.length = n) (hl : ∀ ds ss, pre ds ss → ds.length = ps.length)
    (body : ∀ (cdv : Value) (A : Around) (outer : List PySem.Env) (s : Shared) (H : Hp) (vs : List V) (Q : VK) (E : XK) (B : List Addr) (ds ss : List D), Room k (A.deeper (envOfC qual (defScope st) s.heap.objs.size f cdv)) → pre ds ss →
      Env K B H (L2.start N vs) H (ds.map Sl.dat ++ List.replicate n .emp) → (∀ v H', Same H H' → MixV K (msk B H') C v ss → Q v H') →
      ∃ t, PSs (cxOf CX0 P w K mg base N qual (defScope st) f cdv A outer s H E).nox (defBody st) t ∧ t { nx := fun _ H' => Q .non H', rt := Q } (L2.start N vs) H) : FnOk P w K mg base CX0 (k + 1) f fd ps (spX K C pre) := by
  refine F.ok S (fun vs H Q E h => ?_) (fun cdv A outer s H vs Q E hr h => ?_)
  · obtain ⟨B, ds, ss, _, hd, hp, _⟩ := h
    rw [hd.len, hl ds ss hp]
  · obtain ⟨B, ds, ss, hb, hd, hp, q⟩ := h
    exact body cdv A outer s H vs Q E B ds ss hr hp (env_start hb hd (by rw [hd.len, hl ds ss hp]; exact hn)) q
end
/-- one turn of the loop, told by numbers -/
theorem one_parts (p goal l0 l1 : P) : ∃ (hb : Bool) (i : Int) (kept gone : P) (j : Nat), isAt l1 p = hb ∧ i = (if hb = true then 1 else 0) ∧ atI [pT l0, pT l1] i = some (pT kept) ∧ atI [pT l0, pT l1] (1 - i) = some (pT gone) ∧ ixN 2 (1 - i) = some j ∧
    [pT l0, pT l1].set j (pT goal) = [pT (if isAt l1 p = true then goal else l0), pT (if isAt l1 p = true then l1 else goal)] ∧ oneL p goal l0 l1 = two hb kept gone goal ∧
    (∀ w : Int, stD (.lf (!hb) w) = .tuple [.str "lift", .int (1 - i), .list [.int (w * (1 - i)), .int (w * i)], .int 0]) ∧ stD (.tn (!hb)) = .tuple [.str "turn", .int (1 - i)] ∧ (kept = l0 ∧ gone = l1 ∨ kept = l1 ∧ gone = l0) ∧ Sz 1 (1 - i) ∧ Sz 1 i := by
  have z0 : Sz 1 0 := ⟨by decide⟩
  have z1 : Sz 1 1 := ⟨by decide⟩
  cases h : isAt l1 p with
  | true =>
    refine ⟨true, 1, l1, l0, 0, rfl, rfl, rfl, rfl, rfl, rfl, ?_, fun w => ?_, rfl, .inr ⟨rfl, rfl⟩, z0, z1⟩
    · unfold oneL; rw [if_pos h]
    · show PyData.tuple [.str "lift", .int 0, .list [.int 0, .int w], .int 0] = .tuple [.str "lift", .int 0, .list [.int (w * 0), .int (w * 1)], .int 0]
      rw [Int.mul_zero, Int.mul_one]
  | false =>
    refine ⟨false, 0, l0, l1, 1, rfl, rfl, rfl, rfl, rfl, rfl, ?_, fun w => ?_, rfl, .inl ⟨rfl, rfl⟩, z1, z0⟩
    · unfold oneL; rw [if_neg (by rw [h]; exact Bool.false_ne_true)]
    · show PyData.tuple [.str "lift", .int 1, .list [.int w, .int 0], .int 0] = .tuple [.str "lift", .int 1, .list [.int (w * 1), .int (w * 0)], .int 0]
      rw [Int.mul_zero, Int.mul_one]
theorem sz_weight0 {kept gone goal : P} (z1 : SzP 10500 kept) (z2 : SzP 10500 gone) (z3 : SzP 10500 goal) : Sz 90000 (weightOf kept gone goal) := by
  have a : Sz 21001 (dt kept goal) := sz_dt z1.x z1.y z3.x z3.y
  have b : Sz 21001 (dt kept gone) := sz_dt z1.x z1.y z2.x z2.y
  have c : Sz 21001 (dt goal gone) := sz_dt z3.x z3.y z2.x z2.y
  exact (((a.mul b).mul c).mul b).mono (by decide)
theorem drop_next {α : Type} {l : List α} {i : Nat} {x : α} (h : l[i]? = some x) : l.drop i = x :: l.drop (i + 1) := by
  obtain ⟨hi, e⟩ := List.getElem?_eq_some_iff.mp h
  rw [List.drop_eq_getElem_cons hi, e]
theorem last_at : ∀ (l : List P) (d : P) (i : Nat) (x : P), l[i]? = some x → l.length = i + 1 → lastOf d l = x
  | [], _, _, _, h, _ => by simp at h
  | [y], _, 0, x, h, _ => by simp at h; exact h
  | [y], _, i + 1, x, h, k => by simp at k
  | y :: z :: r, d, 0, x, h, k => by simp at k
  | y :: z :: r, d, i + 1, x, h, k => last_at (z :: r) y i x (by simpa using h) (by simpa using k)
/-- the place after the one at hand, as it is looked up -/
theorem goal_at {g h : P} (hu : dt g h = 1 ∨ dt g h = -1) {way : List P} {i : Nat} {p : P} (hi : way[i]? = some p) :
    atI (way.map pT ++ ([g, h].filter fun x => !decide (placed x = placed p)).map pT) ((i : Int) + 1) = some (pT ((way.drop (i + 1)).headD (finOf g h (lastOf (0, 0) way)))) := by
  have hlt := (List.getElem?_eq_some_iff.mp hi).1
  have e : ∀ (xs : List D) (k : Nat) (d : D), xs[k]? = some d → atI xs (k : Int) = some d := fun xs k d hk => by
    have hk' := (List.getElem?_eq_some_iff.mp hk).1
    unfold atI ixN
    rw [if_pos (Int.natCast_nonneg k), if_pos (by omega)]
    show xs[(k : Int).toNat]? = _
    rw [Int.toNat_natCast]; exact hk
  have := e (way.map pT ++ ([g, h].filter fun x => !decide (placed x = placed p)).map pT) (i + 1) (pT ((way.drop (i + 1)).headD (finOf g h (lastOf (0, 0) way)))) ?_
  · rw [← this]; rfl
  by_cases hn : i + 1 < way.length
  · rw [List.getElem?_append_left (by rw [List.length_map]; exact hn), List.getElem?_map, List.getElem?_eq_getElem hn, List.drop_eq_getElem_cons hn]
    rfl
  · have hl : way.length = i + 1 := by omega
    rw [List.getElem?_append_right (by rw [List.length_map]; omega), List.length_map, hl, Nat.sub_self, List.drop_of_length_le (by omega), last_at way (0, 0) i p hi hl]
    show _ = some (pT (finOf g h p))
    unfold finOf isAt
    by_cases k : placed g = placed p
    · have k2 : placed h ≠ placed p := fun z => by
        have := dt_self_lk (placed_iff.mp (k.trans z.symm)); omega
      simp [k, k2]
    · simp [k]
section
variable {K : PySem.W.Frag} {B : List Addr} {C : Addr}
/-- the last line: turns where the signs still differ, and the mixer -/
theorem dx_fin {g h l0 l1 : P} {l l' : Addr} {sts : List Stp} {s0 s4 s5 s6 s7 s8 s9 s10 s11 s12 : Sl} (hl : sts.length ≤ 500) {f : List Nat → List Nat} (hf : f [] = []) :
    DX K B C (tMake C (spI K C pre_init) [] E0 (tCons (tC (.int 2)) (tCons (tOp (rCatS K) (tVar 3) (tLc (iRng1 (tCons (tC (.int 2)) tNil)) (gName 12) (tTest (tOp (rNeD K) (tOp (rIx K) (tVar 2) (tVar 12)) (tOp (rIx K) (tVar 1) (tVar 12)))) (tTup (tCons (tC (.str "turn")) (tCons (tVar 12) tNil))) [12])) tNil)))
      [s0, .dat (.list [pT g, pT h]), .own l [pT l0, pT l1], .own l' (sts.map stD), s4, s5, s6, s7, s8, s9, s10, s11, s12] ((sts ++ endTurns g h l0 l1).map stC) := by
  have e : ((([0, 1] : List Int).filter fun x => !decide ((if x = 0 then l0 else l1) = (if x = 0 then g else h))).map fun x => PyData.tuple [.str "turn", .int x]) = (endTurns g h l0 l1).map stD := by
    unfold endTurns
    by_cases a : l0 = g <;> by_cases b : l1 = h <;> simp [a, b, List.filter] <;> first | rfl | trivial
  have hl2 : (endTurns g h l0 l1).length ≤ 2 := by unfold endTurns; split <;> split <;> simp
  refine dx_make (da_cons de_int (da_cons (DL.de (DL.is (dl_catOwn rfl (DL.de (DL.is (dl_lcF (xs := [0, 1]) (enc := PyData.int) _ (fun x => !decide ((if x = 0 then l0 else l1) = (if x = 0 then g else h))) (fun x => .tuple [.str "turn", .int x]) (DI.dw (DI.is (di_rng1 (n := 2) de_int (by decide) (by decide)) rg2)) (by simp) fun l x hx => ⟨dg_name (by simp), ?_, fun _ => ?_⟩) e)) ?_) (List.map_append (f := stD) (l₁ := sts) (l₂ := endTurns g h l0 l1)).symm)) da_nil)) ⟨sts ++ endTurns g h l0 l1, by rw [List.length_append]; omega, rfl, rfl⟩
  · refine (dt_test (de_op (de_ixOwn (j := x) (d := pT (if x = 0 then l0 else l1)) rfl (de_var rfl) ?_) (de_op (de_var rfl) (de_var rfl) (od_ixL (d := pT (if x = 0 then g else h)) ?_)) (od_ne rfl rfl))).is ?_
    · simp only [List.mem_cons, List.not_mem_nil, or_false] at hx
      rcases hx with rfl | rfl <;> rfl
    · simp only [List.mem_cons, List.not_mem_nil, or_false] at hx
      rcases hx with rfl | rfl <;> rfl
    · rw [eqv_pT]
  · exact de_tup (da_cons de_str (da_cons (de_var rfl) da_nil)) (by simp)
  · rw [List.length_map, List.length_map]; omega
end
section
variable {P : Program} {w : World} {K : PySem.W.Frag} {mg : Str → Option Value} {base : Heap} {f : Addr} {fd : FuncData} {C : Addr}
abbrev s_lifts_for : Stmt := topS 35
abbrev n_lifts_for : List Str := ["numbers", "goals", "lines", "steps", "way", "many", "place", "here", "goal", "sign", "weight", "line", "at"]
theorem sc_lifts_for : FnScope n_lifts_for ["numbers"] (defScope s_lifts_for) := ⟨rfl, rfl, rfl, by decide +kernel, rfl, by decide +kernel, by decide +kernel⟩
def pre_lifts_for (ds ss : List D) : Prop := ∃ g h : Int × Int, ds = [.list [pL g, pL h]] ∧ SzP 100 g ∧ SzP 100 h ∧ (dt g h = 1 ∨ dt g h = -1) ∧ ss = (liftsFor g h).map stC
theorem ok_lifts_for (T : Bt mg) (T2 : Ct K mg C) (F : Fun K "lifts_for" "lifts_for" s_lifts_for f fd) (F_check_matrix : Fn P w K mg base "check_matrix" 4 ["numbers"] (spD K pre_check_matrix)) (F_least_way : Fn P w K mg base "least_way" 3 ["numbers"] (spD K pre_least_way)) (F_placed : Fn P w K mg base "placed" 1 ["row"] (spD K pre_placed)) (F_lift_to : Fn P w K mg base "lift_to" 2 ["kept", "gone", "goal"] (spD K pre_lift_to)) (M_init : Nw P w K mg base C 5 ["self", "wide", "steps"] (spI K C pre_init)) : FnOk P w K mg base CX0 7 f fd ["numbers"] (spX K C pre_lifts_for) := by
  refine fn_okX F sc_lifts_for (n := 12) rfl (fun ds r h => ?_) (fun cdv A outer s H vs Q E B ds ss hr hp E0 q => ?_)
  · obtain ⟨_, _, rfl, _⟩ := h; rfl
  obtain ⟨g, h, rfl, zg, zh, hu, rfl⟩ := hp
  refine ⟨_, (pss_cons (ps_expr (pe_fn F_check_matrix (hr.mono (by decide)) (by rfl) (pa_cons (pv 0) pa_nil)))
      (pss_cons (ps_asg (pe_tup (pa_cons (pe_lc (own := [("line", 11)]) rfl sc_lifts_for.nd (k_pl K rfl (pv 0)) (blkOk_by (by kernel_rfl)) (fun _ _ _ _ _ => pg_name (i := 11) sc_lifts_for.nd rfl (by first | exact Or.inl rfl | exact Or.inr rfl)) (fun _ _ _ _ _ => pts_nil) (fun _ _ _ _ _ => (pe_callTy (k_tuple K rfl) (by rfl) T.b_tuple boot_tuple (pa_cons (pv 11) pa_nil)))) (pa_cons (pe_lst (pa_cons (pe_tup (pa_cons pe_int (pa_cons pe_int pa_nil))) (pa_cons (pe_tup (pa_cons pe_int (pa_cons pe_int pa_nil))) pa_nil))) (pa_cons (pe_lst pa_nil) pa_nil)))) (k_gtup K (n := 3) rfl rfl (pgs_cons (pg_name (i := 1) sc_lifts_for.nd rfl (by first | exact Or.inl rfl | exact Or.inr rfl)) (pgs_cons (pg_name (i := 2) sc_lifts_for.nd rfl (by first | exact Or.inl rfl | exact Or.inr rfl)) (pgs_cons (pg_name (i := 3) sc_lifts_for.nd rfl (by first | exact Or.inl rfl | exact Or.inr rfl)) pgs_nil)))))
      (pss_cons (ps_set (i := 4) sc_lifts_for.nd rfl (by first | exact Or.inl rfl | exact Or.inr rfl) (pe_fn F_least_way (hr.mono (by decide)) (by rfl) (pa_cons (pv 0) pa_nil)))
      (pss_cons (ps_for PassesOwn.never rfl (k_en K rfl (by rfl) T.b_enumerate (pa_cons (pv 4) pa_nil)) (k_gtup K (n := 2) rfl rfl (pgs_cons (pg_name (i := 5) sc_lifts_for.nd rfl (by first | exact Or.inl rfl | exact Or.inr rfl)) (pgs_cons (pg_name (i := 6) sc_lifts_for.nd rfl (by first | exact Or.inl rfl | exact Or.inr rfl)) pgs_nil))) (pss_cons (ps_set (i := 7) sc_lifts_for.nd rfl (by first | exact Or.inl rfl | exact Or.inr rfl) (pe_callTy call_int1 (by rfl) T.b_int boot_int (pa_cons (pe_cmpR (k_eq K rfl hr.units) (pe_fn F_placed (hr.mono (by decide)) (by rfl) (pa_cons (pe_ix (k_ix K rfl) (pv 2) pe_int (fun _ _ => rfl)) pa_nil)) (pe_fn F_placed (hr.mono (by decide)) (by rfl) (pa_cons (pv 6) pa_nil)) (nomark _)) pa_nil)))
      (pss_cons (ps_set (i := 8) sc_lifts_for.nd rfl (by first | exact Or.inl rfl | exact Or.inr rfl) (pe_ix (k_ix K rfl) (pe_op (k_cat K rfl) (pv 4) (pe_lc (own := [("line", 11)]) rfl sc_lifts_for.nd (k_pl K rfl (pv 1)) (blkOk_by (by kernel_rfl)) (fun _ _ _ _ _ => pg_name (i := 11) sc_lifts_for.nd rfl (by first | exact Or.inl rfl | exact Or.inr rfl)) (fun _ _ _ _ _ => (pts_one (pt_cmpR (k_ne K rfl hr.units) (pe_fn F_placed (hr.mono (by decide)) (by rfl) (pa_cons (pv 11) pa_nil)) (pe_fn F_placed (hr.mono (by decide)) (by rfl) (pa_cons (pv 6) pa_nil)) (nomark _)))) (fun _ _ _ _ _ => (pv 11)))) (pe_op op_add (pv 5) pe_int) (fun _ _ => rfl)))
      (pss_cons (ps_asg (pe_fn F_lift_to (hr.mono (by decide)) (by rfl) (pa_cons (pe_ix (k_ix K rfl) (pv 2) (pv 7) (fun _ _ => rfl)) (pa_cons (pe_ix (k_ix K rfl) (pv 2) (pe_op op_sub pe_int (pv 7)) (fun _ _ => rfl)) (pa_cons (pv 8) pa_nil)))) (k_gtup K (n := 2) rfl rfl (pgs_cons (pg_name (i := 9) sc_lifts_for.nd rfl (by first | exact Or.inl rfl | exact Or.inr rfl)) (pgs_cons (pg_name (i := 10) sc_lifts_for.nd rfl (by first | exact Or.inl rfl | exact Or.inr rfl)) pgs_nil))))
      (pss_cons (ps_expr (pe_bm PySem.F.plainAttrs_list PySem.F.slot_list_append PySem.F.type_list_append mt_append (pv 3) (pa_cons (pe_tup (pa_cons pe_str (pa_cons (pe_op op_sub pe_int (pv 7)) (pa_cons (pe_lst (pa_cons (pe_op op_mulW (pv 10) (pe_op op_sub pe_int (pv 7))) (pa_cons (pe_op op_mulW (pv 10) (pv 7)) pa_nil))) (pa_cons pe_int pa_nil))))) pa_nil)))
      (pss_cons (ps_if (pt_cmpR op_lt (pv 9) pe_int (nomark _)) (pss_one (ps_expr (pe_bm PySem.F.plainAttrs_list PySem.F.slot_list_append PySem.F.type_list_append mt_append (pv 3) (pa_cons (pe_tup (pa_cons pe_str (pa_cons (pe_op op_sub pe_int (pv 7)) pa_nil))) pa_nil)))) pss_nil)
      (pss_one (ps_asg (pv 8) (pg_sub (pv 2) (pe_op op_sub pe_int (pv 7)) set_list)))))))))
      (pss_cons (ps_if (pt_cmpR (k_ne K rfl hr.units) (pe_fn F_placed (hr.mono (by decide)) (by rfl) (pa_cons (pe_ix (k_ix K rfl) (pv 2) pe_int (fun _ _ => rfl)) pa_nil)) (pe_fn F_placed (hr.mono (by decide)) (by rfl) (pa_cons (pe_ix (k_ix K rfl) (pv 1) pe_int (fun _ _ => rfl)) pa_nil)) (nomark _)) (pss_cons (ps_expr (pe_bm PySem.F.plainAttrs_list PySem.F.slot_list_append PySem.F.type_list_append mt_append (pv 3) (pa_cons (pe_tup (pa_cons pe_str (pa_cons pe_int (pa_cons pe_int pa_nil)))) pa_nil)))
      (pss_one (ps_set (i := 2) sc_lifts_for.nd rfl (by first | exact Or.inl rfl | exact Or.inr rfl) (k_rev K rfl (pv 2))))) pss_nil)
      (pss_one (ps_ret (pe_new M_init (hr.mono (by decide)) (by rfl) T2.gMixer (pa_cons pe_int (pa_cons (pe_op (k_cat K rfl) (pv 3) (pe_lc (own := [("at", 12)]) rfl sc_lifts_for.nd (pi_range1 rfl T.b_range (pa_cons pe_int pa_nil)) (blkOk_by (by kernel_rfl)) (fun _ _ _ _ _ => pg_name (i := 12) sc_lifts_for.nd rfl (by first | exact Or.inl rfl | exact Or.inr rfl)) (fun _ _ _ _ _ => (pts_one (pt_cmpR (k_ne K rfl hr.units) (pe_ix (k_ix K rfl) (pv 2) (pv 12) (fun _ _ => rfl)) (pe_ix (k_ix K rfl) (pv 1) (pv 12) (fun _ _ => rfl)) (nomark _)))) (fun _ _ _ _ _ => (pe_tup (pa_cons pe_str (pa_cons (pv 12) pa_nil)))))) pa_nil)))))))))), ?_⟩
  have m : ∀ {i : Int}, Sz 100 i → Sz 40000 i := fun h => h.mono (by decide)
  refine q_drop E0 (d := .none) (de_call (ds := [.list [pL g, pL h]]) (da_cons (de_var rfl) da_nil) ⟨g, h, rfl, ⟨m zg.x, m zg.y, m zh.x, m zh.y⟩, hu, rfl⟩) fun H1 E1 => ?_
  refine q_tup3 E1 (i := 1) (j := 2) (m := 3) (d := .list [pT g, pT h]) (ds1 := [pT (1, 0), pT (0, 1)]) (ds2 := []) ?_ ?_ (fun l => dl_lst da_nil (by simp)) (by decide) fun l l' σ2 H2 E2 => ?_
  · refine DL.de (DL.is (dl_lc (xs := [g, h]) (enc := pL) _ pT (di_list (ds := [pL g, pL h]) (de_var rfl)).dw (by simp) fun l x hx => ⟨dg_name (by simp), ?_⟩) rfl)
    exact de_cb (ds := [pL x]) (da_cons (de_var rfl) da_nil) ca_tupleL
  · exact dl_lst (da_cons (de_tup (da_cons de_int (da_cons de_int da_nil)) (by simp)) (da_cons (de_tup (da_cons de_int (da_cons de_int da_nil)) (by simp)) da_nil)) (by simp)
  refine q_asg E2 (i := 4) (d := wL (leastWay g h)) (de_call (ds := [.list [pL g, pL h]]) (da_cons (de_var rfl) da_nil) ⟨g, h, rfl, ⟨zg.x, zg.y, zh.x, zh.y⟩, rfl⟩) fun σ3 H3 E3 => ?_
  have hlift : liftsFor g h = (go (leastWay g h) (finOf g h (lastOf (0, 0) (leastWay g h))) (1, 0) (0, 1)).1 ++ endSteps g h (go (leastWay g h) (finOf g h (lastOf (0, 0) (leastWay g h))) (1, 0) (0, 1)).2.1 (go (leastWay g h) (finOf g h (lastOf (0, 0) (leastWay g h))) (1, 0) (0, 1)).2.2 := rfl
  rw [hlift] at q
  obtain ⟨wlen, wsz⟩ := leastWay_sz zg zh
  have glen := go_len (leastWay g h) (finOf g h (lastOf (0, 0) (leastWay g h))) (1, 0) (0, 1)
  have zfin : SzP 10500 (finOf g h (lastOf (0, 0) (leastWay g h))) := by
    unfold finOf; split
    · exact zh.mono (by decide)
    · exact zg.mono (by decide)
  generalize hway : leastWay g h = way at *
  generalize hfin : finOf g h (lastOf (0, 0) way) = fin at *
  refine q_forX E3 (vs := [5, 6]) (di_enum (ds := way.map pT) (de_var rfl)) (fun i Γ => ∃ (l l' : Addr) (ss : List Stp) (l0 l1 : Int × Int) (s5 s6 s7 s8 s9 s10 s11 s12 : Sl), Γ = [.dat (.list [pL g, pL h]), .dat (.list [pT g, pT h]), .own l [pT l0, pT l1], .own l' (ss.map stD), .dat (wL way), s5, s6, s7, s8, s9, s10, s11, s12] ∧
    ss.length ≤ 2 * i ∧ SzP 10500 l0 ∧ SzP 10500 l1 ∧ ss ++ (go (way.drop i) fin l0 l1).1 = (go way fin (1, 0) (0, 1)).1 ∧ (go (way.drop i) fin l0 l1).2 = (go way fin (1, 0) (0, 1)).2) ⟨l, l', [], _, _, _, _, _, _, _, _, _, _, rfl, Nat.le_refl _, szP_one.1, szP_one.2, rfl, rfl⟩ (fun i d Γi hd hΓ => ?_) (fun B4 Γ4 σ4 H4 hΓ hs E4 => ?_)
  · obtain ⟨l, l', ss, l0, l1, s5, s6, s7, s8, s9, s10, s11, s12, rfl, hss, z0, z1, k1, k2⟩ := hΓ
    obtain ⟨d', hd', rfl⟩ := enD_get hd
    rw [List.getElem?_map] at hd'
    cases hp : way[i]? with
    | none => rw [hp] at hd'; cases hd'
    | some p =>
    rw [hp] at hd'
    have hd' := Option.some.inj hd'
    subst hd'
    have hilt := (List.getElem?_eq_some_iff.mp hp).1
    have hgoal := goal_at hu hp
    rw [hfin] at hgoal
    rw [drop_next hp] at k1 k2
    have zgoal : SzP 10500 ((way.drop (i + 1)).headD fin) := by
      cases hdr : way.drop (i + 1) with
      | nil => exact zfin
      | cons y r => exact wsz y (List.mem_of_mem_drop (by rw [hdr]; exact List.mem_cons_self))
    have e1 : (go (p :: way.drop (i + 1)) fin l0 l1) = (oneL p ((way.drop (i + 1)).headD fin) l0 l1 ++ (go (way.drop (i + 1)) fin (if isAt l1 p = true then (way.drop (i + 1)).headD fin else l0) (if isAt l1 p = true then l1 else (way.drop (i + 1)).headD fin)).1, (go (way.drop (i + 1)) fin (if isAt l1 p = true then (way.drop (i + 1)).headD fin else l0) (if isAt l1 p = true then l1 else (way.drop (i + 1)).headD fin)).2) := rfl
    rw [e1] at k1 k2
    generalize (way.drop (i + 1)).headD fin = goal at *
    obtain ⟨hb, z, kept, gone, j, h1, h2, h3, h4, h5, h6, h7, h8, h9, h10, h11, h12⟩ := one_parts p goal l0 l1
    refine ⟨_, fun B' => dg_pair (by simp) (by simp), fun B' H0' σ' H' hs' E4 N hN X Y Z => ?_⟩
    have zk : SzP 10500 kept ∧ SzP 10500 gone := by
      rcases h10 with ⟨a, b⟩ | ⟨a, b⟩ <;> rw [a, b]
      · exact ⟨z0, z1⟩
      · exact ⟨z1, z0⟩
    refine q_asg E4 (i := 7) (d := .int z) ?_ fun σ5 H5 E5 => ?_
    · refine DE.is (de_cb (ds := [.bool (isAt l1 p)]) (da_cons (DE.is (de_op (de_call (ds := [pT l1]) (da_cons (de_ixOwn (j := 1) rfl de_int rfl) da_nil) ⟨_, l1, rfl, .inr rfl, rfl⟩) (de_call (ds := [pT p]) (da_cons (de_var rfl) da_nil) ⟨_, p, rfl, .inr rfl, rfl⟩) (od_eq rfl rfl)) (by rw [eqv_pT]; rfl)) da_nil) ca_intB) ?_
      rw [h1, h2]
    refine q_asg E5 (i := 8) (d := pT goal) ?_ fun σ6 H6 E6 => ?_
    · refine de_op (DL.de (dl_op (de_var rfl) (DL.de (dl_lcF (xs := [g, h]) (enc := pT) _ (fun x => !decide (placed x = placed p)) pT (di_list (ds := [pT g, pT h]) (de_var rfl)).dw (by simp) fun l x hx => ⟨dg_name (by simp), ?_, fun _ => de_var rfl⟩)) (ol_cat ?_))) (de_op (de_var rfl) de_int od_i0) (od_ixL hgoal)
      · refine (dt_test (de_op (de_call (ds := [pT x]) (da_cons (de_var rfl) da_nil) ⟨_, x, rfl, .inr rfl, rfl⟩) (de_call (ds := [pT p]) (da_cons (de_var rfl) da_nil) ⟨_, p, rfl, .inr rfl, rfl⟩) (od_ne rfl rfl))).is ?_
        rw [eqv_pT]
      · rw [List.length_map, List.length_map]
        exact Nat.le_trans (Nat.add_le_add wlen (List.length_filter_le _ _)) (show 101 + 2 ≤ 1000 by decide)
    refine q_asgG E6 (vs := [9, 10]) (d := .tuple [.int (signOf kept gone goal), .int (weightOf kept gone goal)]) (de_call (ds := [pT kept, pT gone, pT goal]) ?_ ?_) (dg_pair (by simp) (by simp)) fun σ7 H7 E7 => ?_
    · exact da_cons (de_ixOwn (j := z) rfl (de_var rfl) h3) (da_cons (de_ixOwn (j := 1 - z) rfl (de_op de_int (de_var rfl) od_i0) h4) (da_cons (de_var rfl) da_nil))
    · have m2 : ∀ {i : Int}, Sz 10500 i → Sz 40000 i := fun h => h.mono (by decide)
      exact ⟨_, _, _, kept, gone, goal, rfl, ⟨.inr rfl, .inr rfl, .inr rfl⟩, ⟨m2 zk.1.x, m2 zk.1.y, m2 zk.2.x, m2 zk.2.y, m2 zgoal.x, m2 zgoal.y⟩, rfl⟩
    have zw := sz_weight0 zk.1 zk.2 zgoal
    refine q_app E7 (i := 3) (d := stD (.lf (!hb) (weightOf kept gone goal))) rfl ?_ (by rw [List.length_map]; omega) fun H8 E8 => ?_
    · rw [h8]
      exact de_tup (da_cons de_str (da_cons (de_op de_int (de_var rfl) od_i0) (da_cons (DL.de (dl_lst (da_cons (de_op (de_var rfl) (de_op de_int (de_var rfl) od_i0) (od_i (mulW zw h11 (by decide)))) (da_cons (de_op (de_var rfl) (de_var rfl) (od_i (mulW zw h12 (by decide)))) da_nil)) (by simp))) (da_cons de_int da_nil)))) (by simp)
    have fin : ∀ (H' : Hp) (ss2 : List Stp), ss2 = ss ++ oneL p goal l0 l1 → Env K B' H0' σ7 H' [.dat (.list [pL g, pL h]), .dat (.list [pT g, pT h]), .own l [pT l0, pT l1], .own l' (ss2.map stD), .dat (wL way), .dat (.int (i : Nat)), .dat (pT p), .dat (.int z), .dat (pT goal), .dat (.int (signOf kept gone goal)), .dat (.int (weightOf kept gone goal)), s11, s12] →
        (tAsg (tVar 8) (gSub (tVar 2) (tOp (rI0 fun i j => .int (i - j)) (tC (.int 1)) (tVar 7)) rSetL)) { nx := N, rt := X, bk := Z, ct := Y } σ7 H' := fun H' ss2 hss2 E9 => by
      refine s_setI E9 (i := 2) (l := l) (ds := [pT l0, pT l1]) (j := j) (z := 1 - z) (d := pT goal) rfl (de_var rfl) (de_op de_int (de_var rfl) od_i0) h5 fun H6 E6 => ?_
      rw [h6] at E6
      refine hN _ _ _ _ ⟨l, l', ss2, _, _, _, _, _, _, _, _, _, _, rfl, ?_, ?_, ?_, ?_, k2⟩ (fun b hb => hb) E6
      · rw [hss2, List.length_append]
        have : (oneL p goal l0 l1).length ≤ 2 := by rw [h7]; exact two_len _ _ _ _
        omega
      · split
        · exact zgoal
        · exact z0
      · split
        · exact z1
        · exact zgoal
      · rw [hss2, List.append_assoc]; exact k1
    refine q_if E8 (b := decide (signOf kept gone goal < 0)) (dt_test (de_op (de_var rfl) de_int od_b0)) (fun hb2 H9 E9 => ?_) (fun hb2 H9 E9 => ?_)
    · refine s_app E9 (i := 3) (d := stD (.tn (!hb))) rfl ?_ ?_ fun H10 E10 => ?_
      · rw [h9]
        exact de_tup (da_cons de_str (da_cons (de_op de_int (de_var rfl) od_i0) da_nil)) (by simp)
      · rw [List.length_append, List.length_map, List.length_singleton]; omega
      · refine fin H10 (ss ++ oneL p goal l0 l1) rfl ?_
        rw [h7]
        unfold two
        rw [if_pos (of_decide_eq_true hb2), List.map_append]
        have e : (ss.map stD ++ [stD (.lf (!hb) (weightOf kept gone goal))]) ++ [stD (.tn (!hb))] = ss.map stD ++ ([Stp.lf (!hb) (weightOf kept gone goal), .tn (!hb)]).map stD := by
          rw [List.append_assoc]; rfl
        rw [← e]
        exact E10
    · refine fin H9 (ss ++ oneL p goal l0 l1) rfl ?_
      rw [h7]
      unfold two
      rw [if_neg (of_decide_eq_false hb2), List.map_append]
      exact E9
  · obtain ⟨l, l', ss, l0, l1, s5, s6, s7, s8, s9, s10, s11, s12, rfl, hss, z0, z1, k1, k2⟩ := hΓ
    rw [enD_len, List.length_map] at hss k1 k2
    rw [List.drop_length] at k1 k2
    have k1 : ss ++ [] = _ := k1
    rw [List.append_nil] at k1
    have k2 : (l0, l1) = _ := k2
    rw [← k1, ← k2] at q
    have sub : ∀ b ∈ B, b ∈ B4 := fun b hb => hs b (List.mem_cons_of_mem _ (List.mem_cons_of_mem _ hb))
    refine q_if E4 (b := !decide (placed l0 = placed g)) ?_ (fun hb5 H5 E5 => ?_) (fun hb5 H5 E5 => ?_)
    · refine (dt_test (de_op (de_call (ds := [pT l0]) (da_cons (de_ixOwn (j := 0) rfl de_int rfl) da_nil) ⟨_, l0, rfl, .inr rfl, rfl⟩) (de_call (ds := [pT g]) (da_cons (de_op (de_var rfl) de_int (od_ixL rfl)) da_nil) ⟨_, g, rfl, .inr rfl, rfl⟩) (od_ne rfl rfl))).is ?_
      rw [eqv_pT]
    · refine q_app E5 (i := 3) (d := stD .sw) rfl (de_tup (da_cons de_str (da_cons de_int (da_cons de_int da_nil))) (by simp)) (by rw [List.length_map]; omega) fun H6 E6 => ?_
      refine s_asgO E6 (i := 2) (ds := [pT l1, pT l0]) (DL.is (dl_revOwn rfl) rfl) fun l5 σ7 H7 E7 => ?_
      have e : ss.map stD ++ [stD .sw] = (ss ++ [Stp.sw]).map stD := by rw [List.map_append]; rfl
      have E7 : Env K (l5 :: B4) H σ7 H7 [.dat (.list [pL g, pL h]), .dat (.list [pT g, pT h]), .own l5 [pT l1, pT l0], .own l' ((ss ++ [Stp.sw]).map stD), .dat (wL way), s5, s6, s7, s8, s9, s10, s11, s12] := by rw [← e]; exact E7
      have hn : placed l0 ≠ placed g := by simpa using hb5
      refine s_retX E7 (dx_fin (f := fun x => x) (by rw [List.length_append, List.length_singleton]; omega) rfl) fun v H8 E8 hv => ?_
      refine q v H8 E8.ex ?_
      have e2 : ss ++ endSteps g h l0 l1 = ss ++ [Stp.sw] ++ endTurns g h l1 l0 := by
        unfold endSteps; rw [if_neg hn, List.append_assoc]; rfl
      rw [e2]
      exact hv.ex (msk_sub fun b hb => List.mem_cons_of_mem _ (sub b hb))
    · have hn : placed l0 = placed g := by simpa using hb5
      refine s_retX E5 (dx_fin (f := fun x => x) (by omega) rfl) fun v H8 E8 hv => ?_
      refine q v H8 E8.ex ?_
      have e2 : ss ++ endSteps g h l0 l1 = ss ++ endTurns g h l0 l1 := by
        unfold endSteps; rw [if_pos hn]
      rw [e2]
      exact hv.ex (msk_sub sub)
end
end WS
namespace WS
open PySem PySem.Spec PyProof.Rows L2
local macro_rules | `(tactic| walk_at "num") => `(tactic| first | assumption | exact mulW (by assumption) (by assumption) (by decide))
local macro_rules | `(tactic| walk_at "de") => `(tactic| first
  | exact de_int | exact de_str | exact de_bl | exact de_non | exact de_var rfl | exact da_nil | exact do_none | assumption
  | ((with_reducible apply da_cons) <;> walk_at "de")
  | ((with_reducible apply de_tup) <;> first | walk_at "de" | (simp; done))
  | ((with_reducible apply de_op) <;> walk_at "de")
  | ((with_reducible show DE _ _ (tCB (rIsi _) (tCons _ (tCons (tC (.ty "int")) tNil))) _ _); apply isi_int; walk_at "de")
  | ((with_reducible show DE _ _ (tCB (rIsi _) (tCons _ (tCons (tC (.ty "bool")) tNil))) _ _); apply isi_bool; walk_at "de")
  | ((with_reducible show DE _ _ (tCB (rIsi _) (tCons _ (tCons (tC (.ty "list")) tNil))) _ _); apply isi_list; walk_at "de")
  | ((with_reducible show DE _ _ (tCB (rIsi _) (tCons _ (tCons (tC (.ty "tuple")) tNil))) _ _); apply isi_tup; walk_at "de")
  | ((with_reducible apply de_cb) <;> walk_at "de")
  | ((with_reducible apply de_neg) <;> walk_at "de")
  | ((with_reducible apply dt_test) <;> walk_at "de")
  | ((with_reducible apply dt_B) <;> walk_at "de")
  | ((with_reducible apply dt_not) <;> walk_at "de")
  | ((with_reducible apply de_notV) <;> walk_at "de")
  | ((with_reducible apply do_some) <;> walk_at "de")
  | exact ca_lenL | exact ca_lenT | exact ca_abs | exact ca_intI | exact ca_intB | exact ca_min2
  | exact od_i0 | exact od_b0
  | exact od_ixL rfl | exact od_ixT rfl
  | exact od_ixP0 (by assumption) | exact od_ixP1 (by assumption)
  | (refine od_i ?_; walk_at "num"))

/-- a step's work on a column -/
def stepC : Stp → Int × Int → Int × Int
  | .lf true w, x => (x.1, x.2 + w * x.1)
  | .lf false w, x => (x.1 + w * x.2, x.2)
  | .tn true, x => (x.1, -x.2)
  | .tn false, x => (-x.1, x.2)
  | .sw, x => (x.2, x.1)
theorem stepC_col0 (s : Stp) (M : Mx) : stepC s (M.a, M.c) = ((s.run M).a, (s.run M).c) := by
  rcases s with (_ | _) | (_ | _) | _ <;> rfl
theorem stepC_col1 (s : Stp) (M : Mx) : stepC s (M.b, M.d) = ((s.run M).b, (s.run M).d) := by
  rcases s with (_ | _) | (_ | _) | _ <;> rfl
theorem lf_col (to : Bool) (w : Int) (x : Int × Int) (hw : Sz 30000 w) : ∃ (i : Int) (j : Nat) (a b p : Int), stD (.lf to w) = .tuple [.str "lift", .int i, .list [.int a, .int b], .int 0] ∧ ixN 2 i = some j ∧ atI [PyData.int x.1, .int x.2] i = some (.int p) ∧ Sz 30000 a ∧ Sz 30000 b ∧
    pL (stepC (.lf to w) x) = .list (([PyData.int x.1, .int x.2] : List D).set j (.int (p + 1 * ((a * x.1 + b * x.2) / (1 * 2 ^ (0 : Int).toNat))))) := by
  have z0 : Sz 30000 0 := ⟨Nat.two_pow_pos _⟩
  cases to
  · refine ⟨0, 0, 0, w, x.1, rfl, rfl, rfl, z0, hw, ?_⟩
    show PyData.list [.int (x.1 + w * x.2), .int x.2] = .list [.int (x.1 + 1 * ((0 * x.1 + w * x.2) / (1 * 2 ^ (0 : Int).toNat))), .int x.2]
    simp
  · refine ⟨1, 1, w, 0, x.2, rfl, rfl, rfl, hw, z0, ?_⟩
    show PyData.list [.int x.1, .int (x.2 + w * x.1)] = .list [.int x.1, .int (x.2 + 1 * ((w * x.1 + 0 * x.2) / (1 * 2 ^ (0 : Int).toNat)))]
    simp
theorem tn_col (b : Bool) (x : Int × Int) : ∃ (j : Nat) (p : Int), ixN 2 (b2n b) = some j ∧ atI [PyData.int x.1, .int x.2] (b2n b) = some (.int p) ∧ pL (stepC (.tn b) x) = .list (([PyData.int x.1, .int x.2] : List D).set j (.int (0 - p))) := by
  cases b
  · refine ⟨0, x.1, rfl, rfl, ?_⟩
    show PyData.list [.int (-x.1), .int x.2] = .list [.int (0 - x.1), .int x.2]
    simp
  · refine ⟨1, x.2, rfl, rfl, ?_⟩
    show PyData.list [.int x.1, .int (-x.2)] = .list [.int x.1, .int (0 - x.2)]
    simp
section
variable {P : Program} {w : World} {K : PySem.W.Frag} {mg : Str → Option Value} {base : Heap} {f : Addr} {fd : FuncData} {C : Addr}
abbrev s__law_stepped : Stmt := topS 40
abbrev n__law_stepped : List Str := ["_law_step", "_law_row", "_law_way", "_law_found", "_law_total", "_law_at"]
theorem sc__law_stepped : FnScope n__law_stepped ["_law_step", "_law_row", "_law_way"] (defScope s__law_stepped) := ⟨rfl, rfl, rfl, by decide +kernel, rfl, by decide +kernel, by decide +kernel⟩
def pre_stepped (ds : List D) (r : D) : Prop := ∃ (s : Stp) (x : Int × Int), ds = [stD s, pL x, .int 1] ∧ s.okw ∧ SzP 11000 x ∧ r = pL (stepC s x)
theorem ok__law_stepped (T : Bt mg) (F : Fun K "_law_stepped" "_law_stepped" s__law_stepped f fd) : FnOk P w K mg base CX0 1 f fd ["_law_step", "_law_row", "_law_way"] (spD K pre_stepped) := by
  refine fn_ok F sc__law_stepped (n := 3) rfl (fun ds r h => ?_) (fun cdv A outer s H vs Q E B ds r hr hp E0 q => ?_)
  · obtain ⟨_, _, rfl, _⟩ := h; rfl
  obtain ⟨st, x, rfl, hw, zx, rfl⟩ := hp
  refine ⟨_, (pss_cons (ps_set (i := 3) sc__law_stepped.nd rfl (by first | exact Or.inl rfl | exact Or.inr rfl) (pe_callTy (k_list K rfl) (by rfl) T.b_list boot_list (pa_cons (pv 1) pa_nil)))
      (pss_cons (ps_if (pt_cmpR (k_eq K rfl hr.units) (pe_ix (k_ix K rfl) (pv 0) pe_int (fun _ _ => rfl)) pe_str (nomark _)) (pss_cons (ps_set (i := 4) sc__law_stepped.nd rfl (by first | exact Or.inl rfl | exact Or.inr rfl) (pe_callB (k_sum K rfl rfl) (by rfl) T.b_sum boot_sum (pa_cons (pe_lc (own := [("_law_at", 5)]) rfl sc__law_stepped.nd (pi_range1 rfl T.b_range (pa_cons (pe_callB (k_len K rfl) (by rfl) T.b_len boot_len (pa_cons (pv 1) pa_nil)) pa_nil)) (blkOk_by (by kernel_rfl)) (fun _ _ _ _ _ => pg_name (i := 5) sc__law_stepped.nd rfl (by first | exact Or.inl rfl | exact Or.inr rfl)) (fun _ _ _ _ _ => pts_nil) (fun _ _ _ _ _ => (pe_op op_mulW (pe_ix (k_ix K rfl) (pe_ix (k_ix K rfl) (pv 0) pe_int (fun _ _ => rfl)) (pv 5) (fun _ _ => rfl)) (pe_ix (k_ix K rfl) (pv 1) (pv 5) (fun _ _ => rfl))))) pa_nil)))
      (pss_one (ps_asg (pe_op op_add (pe_ix (k_ix K rfl) (pv 3) (pe_ix (k_ix K rfl) (pv 0) pe_int (fun _ _ => rfl)) (fun _ _ => rfl)) (pe_op op_mulW (pv 2) (pe_op op_fdivW (pv 4) (pe_op op_shlW pe_int (pe_ix (k_ix K rfl) (pv 0) pe_int (fun _ _ => rfl)))))) (pg_sub (pv 3) (pe_ix (k_ix K rfl) (pv 0) pe_int (fun _ _ => rfl)) set_list)))) (pss_one (ps_if (pt_cmpR (k_eq K rfl hr.units) (pe_ix (k_ix K rfl) (pv 0) pe_int (fun _ _ => rfl)) pe_str (nomark _)) (pss_one (ps_asg (pe_op op_sub pe_int (pe_ix (k_ix K rfl) (pv 3) (pe_ix (k_ix K rfl) (pv 0) pe_int (fun _ _ => rfl)) (fun _ _ => rfl))) (pg_sub (pv 3) (pe_ix (k_ix K rfl) (pv 0) pe_int (fun _ _ => rfl)) set_list))) (pss_cons (ps_asg (pe_ix (k_ix K rfl) (pv 1) (pe_ix (k_ix K rfl) (pv 0) pe_int (fun _ _ => rfl)) (fun _ _ => rfl)) (pg_sub (pv 3) (pe_ix (k_ix K rfl) (pv 0) pe_int (fun _ _ => rfl)) set_list))
      (pss_one (ps_asg (pe_ix (k_ix K rfl) (pv 1) (pe_ix (k_ix K rfl) (pv 0) pe_int (fun _ _ => rfl)) (fun _ _ => rfl)) (pg_sub (pv 3) (pe_ix (k_ix K rfl) (pv 0) pe_int (fun _ _ => rfl)) set_list)))))))
      (pss_one (ps_ret (pv 3))))), ?_⟩
  refine q_asgO E0 (i := 3) (ds := [.int x.1, .int x.2]) (dl_listL (de_var rfl)) fun l σ1 H1 E1 => ?_
  have hB : ∀ b ∈ B, b ∈ l :: B := fun b hb => List.mem_cons_of_mem _ hb
  rcases st with ⟨to, k⟩ | b | _
  · obtain ⟨i0, j, a, b, p, e, hj, hat, za, zb, hres⟩ := lf_col to k x hw
    rw [e] at E1
    rw [hres] at q
    refine q_if E1 (b := true) ((dt_test (de_op (de_op (de_var rfl) de_int (od_ixT rfl)) de_str (od_eq sh_lift sh_lift))).is ll) (fun _ H3 E3 => ?_) (fun z => nomatch z)
    refine q_asg E3 (i := 4) (d := .int (a * x.1 + b * x.2)) ?_ fun σ4 H4 E4 => ?_
    · refine DE.is (de_cb (ds := [.list ([a * x.1, b * x.2].map PyData.int)]) (da_cons (DL.de (DL.is (dl_lc (xs := [0, 1]) (enc := PyData.int) _ (fun z => .int (if z = 0 then a * x.1 else b * x.2)) (DI.dw (DI.is (di_rng1 (n := 2) (DE.is (de_cb (ds := [pL x]) (da_cons (de_var rfl) da_nil) ca_lenL) rfl) (by decide) (by decide)) rg2)) (by simp) fun l z hz => ⟨dg_name (by simp), ?_⟩) rfl)) da_nil) ca_sum) (by simp)
      simp only [List.mem_cons, List.not_mem_nil, or_false] at hz
      rcases hz with rfl | rfl
      · exact de_op (de_op (de_op (de_var rfl) de_int (od_ixT rfl)) (de_var rfl) (od_ixL rfl)) (de_op (de_var rfl) (de_var rfl) (od_ixL rfl)) (od_i (mulW za zx.x (by decide)))
      · exact de_op (de_op (de_op (de_var rfl) de_int (od_ixT rfl)) (de_var rfl) (od_ixL rfl)) (de_op (de_var rfl) (de_var rfl) (od_ixL rfl)) (od_i (mulW zb zx.y (by decide)))
    have z1 : Sz 1 1 := ⟨by decide⟩
    have z2 : Sz 1 (1 * 2 ^ (0 : Int).toNat) := ⟨by decide⟩
    have zt : Sz 41001 (a * x.1 + b * x.2) := (za.mul zx.x).add (zb.mul zx.y)
    refine s_setI E4 (i := 3) (l := l) (ds := [.int x.1, .int x.2]) (j := j) (z := i0) (d := .int (p + 1 * ((a * x.1 + b * x.2) / (1 * 2 ^ (0 : Int).toNat)))) rfl ?_ (de_op (de_var rfl) de_int (od_ixT rfl)) hj fun H6 E6 => ?_
    · refine de_op (de_ixOwn (j := i0) rfl (de_op (de_var rfl) de_int (od_ixT rfl)) hat) (de_op (de_var rfl) (de_op (de_var rfl) (de_op de_int (de_op (de_var rfl) de_int (od_ixT rfl)) (od_i (cshl0 z1 (by decide)))) (od_i (divW (by decide) z2 (by decide)))) (od_i (mulW z1 (n := 1) (m := 41001) ?_ (by decide)))) od_i0
      rw [shl0, Int.ediv_one]
      exact zt
    · exact s_retO E6 rfl E0.bd hB q
  · obtain ⟨j, p, hj, hat, hres⟩ := tn_col b x
    rw [hres] at q
    refine q_if E1 (b := false) ((dt_test (de_op (de_op (de_var rfl) de_int (od_ixT rfl)) de_str (od_eq sh_turn sh_lift))).is tl) (fun z => nomatch z) (fun _ H3 E3 => ?_)
    refine s_if E3 (b := true) ((dt_test (de_op (de_op (de_var rfl) de_int (od_ixT rfl)) de_str (od_eq sh_turn sh_turn))).is tt) (fun _ H4 E4 => ?_) (fun z => nomatch z)
    refine s_setI E4 (i := 3) (l := l) (ds := [.int x.1, .int x.2]) (j := j) (z := b2n b) (d := .int (0 - p)) rfl ?_ (de_op (de_var rfl) de_int (od_ixT rfl)) hj fun H6 E6 => ?_
    · exact de_op de_int (de_ixOwn (j := b2n b) rfl (de_op (de_var rfl) de_int (od_ixT rfl)) hat) od_i0
    · exact s_retO E6 rfl E0.bd hB q
  · refine q_if E1 (b := false) ((dt_test (de_op (de_op (de_var rfl) de_int (od_ixT rfl)) de_str (od_eq sh_swap sh_lift))).is sl) (fun z => nomatch z) (fun _ H3 E3 => ?_)
    refine s_if E3 (b := false) ((dt_test (de_op (de_op (de_var rfl) de_int (od_ixT rfl)) de_str (od_eq sh_swap sh_turn))).is st) (fun z => nomatch z) (fun _ H4 E4 => ?_)
    refine q_setI E4 (i := 3) (l := l) (ds := [.int x.1, .int x.2]) (j := 0) (z := 0) (d := .int x.2) rfl (de_op (de_var rfl) (de_op (de_var rfl) de_int (od_ixT rfl)) (od_ixL rfl)) (de_op (de_var rfl) de_int (od_ixT rfl)) rfl fun H6 E6 => ?_
    refine s_setI E6 (i := 3) (l := l) (ds := [.int x.2, .int x.2]) (j := 1) (z := 1) (d := .int x.1) rfl (de_op (de_var rfl) (de_op (de_var rfl) de_int (od_ixT rfl)) (od_ixL rfl)) (de_op (de_var rfl) de_int (od_ixT rfl)) rfl fun H7 E7 => ?_
    exact s_retO E7 rfl E0.bd hB q
abbrev s__law_played : Stmt := topS 41
abbrev n__law_played : List Str := ["_law_steps", "_law_row", "_law_found", "_law_step"]
theorem sc__law_played : FnScope n__law_played ["_law_steps", "_law_row"] (defScope s__law_played) := ⟨rfl, rfl, rfl, by decide +kernel, rfl, by decide +kernel, by decide +kernel⟩
/-- a column, all the steps done -/
def OkCol : List Stp → Int × Int → Prop
  | [], _ => True
  | s :: ss, x => s.okw ∧ SzP 11000 x ∧ OkCol ss (stepC s x)
def colRun (ss : List Stp) (x : Int × Int) : Int × Int := ss.foldl (fun x s => stepC s x) x
theorem OkCol.at_ : ∀ {ss : List Stp} {x : Int × Int} {i : Nat} {s : Stp}, OkCol ss x → ss[i]? = some s → s.okw ∧ SzP 11000 (colRun (ss.take i) x) ∧ colRun (ss.take (i + 1)) x = stepC s (colRun (ss.take i) x)
  | [], _, _, _, _, e => by simp at e
  | s :: ss, x, 0, s', h, e => by simp at e; subst e; exact ⟨h.1, h.2.1, rfl⟩
  | s :: ss, x, i + 1, s', h, e => OkCol.at_ (i := i) (s := s') h.2.2 (by simpa using e)
def pre_played (ds : List D) (r : D) : Prop := ∃ (ss : List Stp) (x : Int × Int), ds = [.list (ss.map stD), pL x] ∧ OkCol ss x ∧ r = pL (colRun ss x)
theorem ok__law_played (T : Bt mg) (F : Fun K "_law_played" "_law_played" s__law_played f fd) (F__law_stepped : Fn P w K mg base "_law_stepped" 1 ["_law_step", "_law_row", "_law_way"] (spD K pre_stepped)) : FnOk P w K mg base CX0 2 f fd ["_law_steps", "_law_row"] (spD K pre_played) := by
  refine fn_ok F sc__law_played (n := 2) rfl (fun ds r h => ?_) (fun cdv A outer s H vs Q E B ds r hr hp E0 q => ?_)
  · obtain ⟨_, _, rfl, _⟩ := h; rfl
  obtain ⟨ss, x, rfl, hok, rfl⟩ := hp
  refine ⟨_, (pss_cons (ps_set (i := 2) sc__law_played.nd rfl (by first | exact Or.inl rfl | exact Or.inr rfl) (pe_callTy (k_list K rfl) (by rfl) T.b_list boot_list (pa_cons (pv 1) pa_nil)))
      (pss_cons (ps_for PassesOwn.never rfl (k_pl K rfl (pv 0)) (pg_name (i := 3) sc__law_played.nd rfl (by first | exact Or.inl rfl | exact Or.inr rfl)) (pss_one (ps_set (i := 2) sc__law_played.nd rfl (by first | exact Or.inl rfl | exact Or.inr rfl) (pe_fn F__law_stepped (hr.mono (by decide)) (by rfl) (pa_cons (pv 3) (pa_cons (pv 2) (pa_cons pe_int pa_nil)))))))
      (pss_one (ps_ret (pv 2))))), ?_⟩
  refine q_asg E0 (i := 2) (d := pL x) (DL.de (dl_listL (de_var rfl))) fun σ1 H1 E1 => ?_
  refine q_forX E1 (vs := [3]) (di_list (ds := ss.map stD) (de_var rfl)) (fun i Γ => ∃ s3 : Sl, Γ = [.dat (.list (ss.map stD)), .dat (pL x), .dat (pL (colRun (ss.take i) x)), s3]) ⟨_, rfl⟩ (fun i d Γi hd hΓ => ?_) (fun B3 Γ3 σ3 H3 hΓ hs E3 => ?_)
  · obtain ⟨s3, rfl⟩ := hΓ
    rw [List.getElem?_map] at hd
    cases hst : ss[i]? with
    | none => rw [hst] at hd; cases hd
    | some st =>
    rw [hst] at hd
    have hd := Option.some.inj hd
    subst hd
    obtain ⟨h1, h2, h3⟩ := hok.at_ hst
    refine ⟨_, fun B' => dg_name (by simp), fun B' H0' σ' H' hs' E4 N hN X Y Z => ?_⟩
    refine s_asg E4 (i := 2) (d := pL (stepC st (colRun (ss.take i) x))) (de_call (ds := [stD st, pL (colRun (ss.take i) x), .int 1]) (da_cons (de_var rfl) (da_cons (de_var rfl) (da_cons de_int da_nil))) ⟨st, _, rfl, h1, h2, rfl⟩) fun σ5 H5 E5 => ?_
    rw [← h3] at E5
    exact hN _ _ _ _ ⟨_, rfl⟩ (fun b hb => hb) E5
  · obtain ⟨s3, rfl⟩ := hΓ
    rw [List.length_map, List.take_length] at E3
    exact s_ret E3 (d := pL (colRun ss x)) (de_var rfl) fun v H' E4 hv => q v H' E4.ex (hv.ex (msk_sub hs))
abbrev s__law_whole : Stmt := topS 42
abbrev n__law_whole : List Str := ["_law_value"]
theorem sc__law_whole : FnScope n__law_whole ["_law_value"] (defScope s__law_whole) := ⟨rfl, rfl, rfl, by decide +kernel, rfl, by decide +kernel, by decide +kernel⟩
def pre_law_whole (ds : List D) (r : D) : Prop := ∃ i, ds = [.int i] ∧ r = .bool true
theorem ok__law_whole (T : Bt mg) (F : Fun K "_law_whole" "_law_whole" s__law_whole f fd) : FnOk P w K mg base CX0 1 f fd ["_law_value"] (spD K pre_law_whole) := by
  refine fn_ok F sc__law_whole (n := 0) rfl (fun ds r h => ?_) (fun cdv A outer s H vs Q E B ds r hr hp E0 q => ?_)
  · obtain ⟨_, rfl, _⟩ := h; rfl
  obtain ⟨i, rfl, rfl⟩ := hp
  refine ⟨_, (pss_one (ps_ret (pe_and (pe_callB (k_isi K rfl) (by rfl) T.b_isinstance boot_isinstance (pa_cons (pv 0) (pa_cons (pe_bltn (v := .ty "int") (by rfl) T.b_int boot_int rfl) pa_nil))) (pe_one (pe_not (pe_callB (k_isi K rfl) (by rfl) T.b_isinstance boot_isinstance (pa_cons (pv 0) (pa_cons (pe_bltn (v := .ty "bool") (by rfl) T.b_bool boot_bool rfl) pa_nil)))))))), ?_⟩
  refine s_ret E0 (DE.is (de_andV (a := true) (b := true) (by walk_at "de") fun _ => ?_) rfl) fun v H' E1 hv => q v H' E1.ex hv
  exact DE.is (de_notV (a := false) (by walk_at "de")) rfl
abbrev s__law_lifts_of : Stmt := topS 43
abbrev n__law_lifts_of : List Str := ["_law_steps", "_law_at"]
theorem sc__law_lifts_of : FnScope n__law_lifts_of ["_law_steps"] (defScope s__law_lifts_of) := ⟨rfl, rfl, rfl, by decide +kernel, rfl, by decide +kernel, by decide +kernel⟩
def liftIx (ss : List Stp) : List Nat := (List.range ss.length).filter fun i => match ss[i]? with | some s => s.isLift | none => false
theorem stD_lift (s : Stp) : ∃ nm ds, stD s = .tuple (.str nm :: ds) ∧ SeqAt.shaped (.str nm) = true ∧ PyData.eqv (.str nm) (.str "lift") = s.isLift := by
  rcases s with (_ | _) | b | _
  · exact ⟨_, _, rfl, sh_lift, ll⟩
  · exact ⟨_, _, rfl, sh_lift, ll⟩
  · exact ⟨_, _, rfl, sh_turn, tl⟩
  · exact ⟨_, _, rfl, sh_swap, sl⟩
theorem atI_nat {α : Type} {l : List α} {i : Nat} {x : α} (h : l[i]? = some x) : atI l (i : Nat) = some x := by
  have hk := (List.getElem?_eq_some_iff.mp h).1
  unfold atI ixN
  rw [if_pos (Int.natCast_nonneg i), if_pos (by omega)]
  show l[(i : Int).toNat]? = _
  rw [Int.toNat_natCast]; exact h
theorem rgD_nat (n : Nat) : rgD 0 n = (List.range n).map fun i => PyData.int (i : Nat) := by
  unfold rgD
  apply List.map_congr_left
  intro i _
  rw [Int.zero_add]
def pre_lifts_of (ds : List D) (r : D) : Prop := ∃ ss : List Stp, ss.length ≤ 1000 ∧ ds = [.list (ss.map stD)] ∧ r = .list ((liftIx ss).map fun i => .int (i : Nat))
theorem ok__law_lifts_of (T : Bt mg) (F : Fun K "_law_lifts_of" "_law_lifts_of" s__law_lifts_of f fd) : FnOk P w K mg base CX0 1 f fd ["_law_steps"] (spD K pre_lifts_of) := by
  refine fn_ok F sc__law_lifts_of (n := 1) rfl (fun ds r h => ?_) (fun cdv A outer s H vs Q E B ds r hr hp E0 q => ?_)
  · obtain ⟨_, _, rfl, _⟩ := h; rfl
  obtain ⟨ss, hl, rfl, rfl⟩ := hp
  refine ⟨_, (pss_one (ps_ret (pe_lc (own := [("_law_at", 1)]) rfl sc__law_lifts_of.nd (pi_range1 rfl T.b_range (pa_cons (pe_callB (k_len K rfl) (by rfl) T.b_len boot_len (pa_cons (pv 0) pa_nil)) pa_nil)) (blkOk_by (by kernel_rfl)) (fun _ _ _ _ _ => pg_name (i := 1) sc__law_lifts_of.nd rfl (by first | exact Or.inl rfl | exact Or.inr rfl)) (fun _ _ _ _ _ => (pts_one (pt_cmpR (k_eq K rfl hr.units) (pe_ix (k_ix K rfl) (pe_ix (k_ix K rfl) (pv 0) (pv 1) (fun _ _ => rfl)) pe_int (fun _ _ => rfl)) pe_str (nomark _)))) (fun _ _ _ _ _ => (pv 1))))), ?_⟩
  refine s_ret E0 (d := .list ((liftIx ss).map fun i => .int (i : Nat))) (DL.de (dl_lcF (xs := List.range ss.length) (enc := fun i => .int (i : Nat)) _ _ (fun i => .int (i : Nat)) (DI.dw (DI.is (di_rng1 (n := (ss.length : Nat)) (DE.is (de_cb (ds := [.list (ss.map stD)]) (da_cons (de_var rfl) da_nil) ca_lenL) (by rw [List.length_map])) (by omega) (by omega)) (by rw [Int.toNat_natCast, rgD_nat]))) (by rw [List.length_range]; omega) fun l i hi => ⟨dg_name (by simp), ?_, fun _ => de_var rfl⟩)) fun v H' E4 hv => q v H' E4.ex hv
  have hlt := List.mem_range.mp hi
  have e : ss[i]? = some ss[i] := List.getElem?_eq_getElem hlt
  rw [e]
  obtain ⟨nm, es, e1, e2, e3⟩ := stD_lift ss[i]
  refine (dt_test (de_op (de_op (de_op (de_var rfl) (de_var rfl) (od_ixL (d := .tuple (.str nm :: es)) (atI_nat (by rw [List.getElem?_map, e, ← e1]; rfl)))) de_int (od_ixT at0)) de_str (od_eq e2 sh_lift))).is e3
end
end WS
/-! The law's table tells LI. -/
namespace WS
def mn (i j : Int) : Int := if j < i then j else i
def cellT (T : List (List Int)) (i j : Nat) : Int := (T.getD i []).getD j 0
def rowCell (T : List (List Int)) (u r : Nat) : Int := 1 + mn (cellT T r (u % r)) (cellT T (u - r) (u % (u - r)))
def rowT (T : List (List Int)) (u : Nat) : List Int := 1000000 :: (List.range (u - 1)).map fun j => rowCell T u (j + 1)
def tabT : Nat → List (List Int)
  | 0 => [[], [1]]
  | n + 1 => tabT n ++ [rowT (tabT n) (n + 2)]
/-- what is known of a table with rows for all numbers under n + 2 -/
structure TabOk (T : List (List Int)) (n : Nat) : Prop where
  len : T.length = n
  row : ∀ i, i < n → (T.getD i []).length = i
  ok : ∀ u r, u < n → r < u → Nat.gcd r u = 1 → cellT T u r = (L r u : Nat)
theorem rowT_len (T : List (List Int)) (u : Nat) (h : 0 < u) : (rowT T u).length = u := by
  unfold rowT
  rw [List.length_cons, List.length_map, List.length_range]; omega
theorem L_mod (a b : Nat) : L (a % b) b = L a b := by
  refine L_of_rs fun _ => ?_
  unfold rs; rw [Nat.mod_mod]
theorem mn_nat (i j : Nat) : mn (i : Int) (j : Int) = ((min i j : Nat) : Int) := by
  unfold mn
  split <;> omega
theorem L_one (a : Nat) : L a 1 = 1 := by
  rw [L_rs Nat.one_pos]
  have : rs a 1 = 0 := by unfold rs; omega
  rw [this]; rfl
theorem L_via (u r : Nat) (h1 : 0 < r) (h2 : r < u) : L r u = 1 + min (L u r) (L u (u - r)) := by
  have hu : 0 < u := by omega
  rw [L_rs hu]
  have e : rs r u = min r (u - r) := by unfold rs; rw [Nat.mod_eq_of_lt h2]
  rw [e]
  congr 1
  by_cases h : 2 * r ≤ u
  · rw [Nat.min_eq_left (by omega : r ≤ u - r)]
    have := L_back u u r (Nat.le_refl _) h
    rw [Nat.min_eq_left this]
  · rw [Nat.min_eq_right (by omega : u - r ≤ r)]
    have := L_back u u (u - r) (Nat.le_refl _) (by omega)
    rw [show u - (u - r) = r by omega] at this
    rw [Nat.min_eq_right this]
theorem getD_app {α : Type} {l m : List α} {i : Nat} {d : α} (h : i < l.length) : (l ++ m).getD i d = l.getD i d := by
  rw [List.getD_eq_getElem?_getD, List.getD_eq_getElem?_getD, List.getElem?_append_left h]
theorem getD_last {α : Type} {l : List α} {x d : α} : (l ++ [x]).getD l.length d = x := by
  rw [List.getD_eq_getElem?_getD, List.getElem?_append_right (Nat.le_refl _), Nat.sub_self]; rfl
theorem tab_ok : ∀ n, TabOk (tabT n) (n + 2)
  | 0 => by
    refine ⟨rfl, fun i hi => ?_, fun u r hu hr hg => ?_⟩
    · rcases i with _ | _ | i
      · rfl
      · rfl
      · omega
    · rcases u with _ | _ | u
      · omega
      · have : r = 0 := by omega
        subst this
        rw [L_one]; rfl
      · omega
  | n + 1 => by
    have ih := tab_ok n
    have hT : tabT (n + 1) = tabT n ++ [rowT (tabT n) (n + 2)] := rfl
    rw [hT]
    have hl := ih.len
    have old : ∀ i, i < n + 2 → (tabT n ++ [rowT (tabT n) (n + 2)]).getD i [] = (tabT n).getD i [] := fun i hi => getD_app (by rw [hl]; exact hi)
    have new : (tabT n ++ [rowT (tabT n) (n + 2)]).getD (n + 2) [] = rowT (tabT n) (n + 2) := by
      have := getD_last (l := tabT n) (x := rowT (tabT n) (n + 2)) (d := [])
      rw [hl] at this; exact this
    refine ⟨by rw [List.length_append, hl]; rfl, fun i hi => ?_, fun u r hu hr hg => ?_⟩
    · by_cases h : i < n + 2
      · rw [old i h]; exact ih.row i h
      · have : i = n + 2 := by omega
        subst this
        rw [new, rowT_len _ _ (by omega)]
    · by_cases h : u < n + 2
      · unfold cellT
        rw [old u h]; exact ih.ok u r h hr hg
      · have : u = n + 2 := by omega
        subst this
        have r0 : 0 < r := by
          rcases Nat.eq_zero_or_pos r with z | z
          · subst z; rw [Nat.gcd_zero_left] at hg; omega
          · exact z
        unfold cellT
        rw [new]
        obtain ⟨r', rfl⟩ : ∃ r', r = r' + 1 := ⟨r - 1, by omega⟩
        have e : (rowT (tabT n) (n + 2)).getD (r' + 1) 0 = rowCell (tabT n) (n + 2) (r' + 1) := by
          unfold rowT
          rw [List.getD_cons_succ, List.getD_eq_getElem?_getD, List.getElem?_map, List.getElem?_range (by omega)]; rfl
        rw [e]
        unfold rowCell
        have g1 : Nat.gcd ((n + 2) % (r' + 1)) (r' + 1) = 1 := by rw [← Nat.gcd_rec, hg]
        have g0 : Nat.gcd ((n + 2) - (r' + 1)) (n + 2) = 1 := by
          have hs : n + 2 = ((n + 2) - (r' + 1)) + (r' + 1) := by omega
          generalize (n + 2) - (r' + 1) = s at hs ⊢
          rw [hs] at hg ⊢
          rw [Nat.gcd_self_add_right]
          rw [Nat.gcd_add_self_right, Nat.gcd_comm] at hg
          exact hg
        have g2 : Nat.gcd ((n + 2) % ((n + 2) - (r' + 1))) ((n + 2) - (r' + 1)) = 1 := by rw [← Nat.gcd_rec]; exact g0
        rw [ih.ok (r' + 1) _ (by omega) (Nat.mod_lt _ (by omega)) g1, ih.ok ((n + 2) - (r' + 1)) _ (by omega) (Nat.mod_lt _ (by omega)) g2, mn_nat, L_mod, L_mod, L_via (n + 2) (r' + 1) r0 hr]
        omega
/-- what far looks up -/
theorem tab_far {n : Nat} {over under : Int} (h0 : under ≠ 0) (h : under.natAbs < n + 2) (hg : Nat.gcd over.natAbs under.natAbs = 1) : cellT (tabT n) under.natAbs (over % (under.natAbs : Int)).toNat = (LI over under : Nat) := by
  have hp : 0 < under.natAbs := by omega
  have e1 : 0 ≤ over % (under.natAbs : Int) := Int.emod_nonneg _ (by omega)
  have e2 := Int.emod_lt_of_pos over (show (0 : Int) < under.natAbs by omega)
  have lt : (over % (under.natAbs : Int)).toNat < under.natAbs := by omega
  have key : Nat.gcd (over % (under.natAbs : Int)).toNat under.natAbs = 1 ∧ L (over % (under.natAbs : Int)).toNat under.natAbs = LI over under := by
    rcases Int.natAbs_eq over with e | e
    · have : (over % (under.natAbs : Int)).toNat = over.natAbs % under.natAbs := by
        rw [e, ← Int.natCast_emod, Int.toNat_natCast, Int.natAbs_natCast]
      rw [this, L_mod]
      exact ⟨by rw [← Nat.gcd_rec, Nat.gcd_comm]; exact hg, rfl⟩
    · generalize hm : over.natAbs = m at *
      generalize hu : under.natAbs = u at *
      have hrs : rs (over % (u : Int)).toNat u = rs m u := by
        have hdiv := Int.emod_add_mul_ediv over (u : Int)
        have em : (over % (u : Int)) = if (m % u = 0) then 0 else (u : Int) - (m % u : Nat) := by
          rw [e]
          by_cases hz : m % u = 0
          · rw [if_pos hz]
            have : (u : Int) ∣ (m : Int) := by exact_mod_cast Nat.dvd_of_mod_eq_zero hz
            exact Int.emod_eq_zero_of_dvd (Int.dvd_neg.mpr this)
          · rw [if_neg hz, Int.neg_emod, if_neg (by
              intro hd
              exact hz (Nat.mod_eq_zero_of_dvd (by exact_mod_cast hd)))]
            rw [← Int.natCast_emod]; omega
        have hlt := Nat.mod_lt m hp
        rw [em]
        unfold rs
        split
        · rename_i hz
          rw [hz]; simp
        · rename_i hz
          have : ((u : Int) - (m % u : Nat)).toNat = u - m % u := by omega
          rw [this, Nat.mod_eq_of_lt (by omega : u - m % u < u)]
          omega
      refine ⟨?_, by
        unfold LI
        rw [hm, hu]
        exact L_of_rs fun _ => hrs⟩
      have d1 : Nat.gcd (over % (u : Int)).toNat u ∣ 1 := by
        rw [← hg]
        refine Nat.dvd_gcd ?_ (Nat.gcd_dvd_right _ _)
        have a1 : ((Nat.gcd (over % (u : Int)).toNat u : Nat) : Int) ∣ over % (u : Int) := by
          have : ((over % (u : Int)).toNat : Int) = over % (u : Int) := Int.toNat_of_nonneg e1
          rw [← this]
          exact_mod_cast Nat.gcd_dvd_left _ _
        have a2 : ((Nat.gcd (over % (u : Int)).toNat u : Nat) : Int) ∣ (u : Int) := by exact_mod_cast Nat.gcd_dvd_right _ _
        have a3 : ((Nat.gcd (over % (u : Int)).toNat u : Nat) : Int) ∣ over := by
          have := Int.dvd_add a1 (Int.dvd_mul_of_dvd_left (c := over / (u : Int)) a2)
          rw [Int.emod_add_mul_ediv] at this
          exact this
        rw [← hm]
        exact Int.ofNat_dvd_left.mp a3
      exact Nat.dvd_one.mp d1
  have := (tab_ok n).ok _ _ h lt key.1
  rw [this, key.2]
/-- the first numbers of rows whose determinant is a unit have no common divisor -/
theorem gcd_of_det {a b c d : Int} (h : a * d - b * c = 1 ∨ a * d - b * c = -1) : Nat.gcd a.natAbs b.natAbs = 1 := by
  have d1 : ((Nat.gcd a.natAbs b.natAbs : Nat) : Int) ∣ a := Int.ofNat_dvd_left.mpr (Nat.gcd_dvd_left _ _)
  have d2 : ((Nat.gcd a.natAbs b.natAbs : Nat) : Int) ∣ b := Int.ofNat_dvd_left.mpr (Nat.gcd_dvd_right _ _)
  have d3 : ((Nat.gcd a.natAbs b.natAbs : Nat) : Int) ∣ a * d - b * c := Int.dvd_sub (Int.dvd_mul_of_dvd_left d1) (Int.dvd_mul_of_dvd_left d2)
  have d4 : Nat.gcd a.natAbs b.natAbs ∣ (a * d - b * c).natAbs := Int.ofNat_dvd_left.mp d3
  have : (a * d - b * c).natAbs = 1 := by omega
  rw [this] at d4
  exact Nat.dvd_one.mp d4
end WS
namespace WS
open PySem PySem.Spec PyProof.Rows L2
local macro_rules | `(tactic| walk_at "num") => `(tactic| first | assumption | exact mulW (by assumption) (by assumption) (by decide))
local macro_rules | `(tactic| walk_at "de") => `(tactic| first
  | exact de_int | exact de_str | exact de_bl | exact de_non | exact de_var rfl | exact da_nil | exact do_none | assumption
  | ((with_reducible apply da_cons) <;> walk_at "de")
  | ((with_reducible apply de_tup) <;> first | walk_at "de" | (simp; done))
  | ((with_reducible apply de_op) <;> walk_at "de")
  | ((with_reducible show DE _ _ (tCB (rIsi _) (tCons _ (tCons (tC (.ty "int")) tNil))) _ _); apply isi_int; walk_at "de")
  | ((with_reducible show DE _ _ (tCB (rIsi _) (tCons _ (tCons (tC (.ty "bool")) tNil))) _ _); apply isi_bool; walk_at "de")
  | ((with_reducible show DE _ _ (tCB (rIsi _) (tCons _ (tCons (tC (.ty "list")) tNil))) _ _); apply isi_list; walk_at "de")
  | ((with_reducible show DE _ _ (tCB (rIsi _) (tCons _ (tCons (tC (.ty "tuple")) tNil))) _ _); apply isi_tup; walk_at "de")
  | ((with_reducible apply de_cb) <;> walk_at "de")
  | ((with_reducible apply de_neg) <;> walk_at "de")
  | ((with_reducible apply dt_test) <;> walk_at "de")
  | ((with_reducible apply dt_B) <;> walk_at "de")
  | ((with_reducible apply dt_not) <;> walk_at "de")
  | ((with_reducible apply de_notV) <;> walk_at "de")
  | ((with_reducible apply do_some) <;> walk_at "de")
  | exact ca_lenL | exact ca_lenT | exact ca_abs | exact ca_intI | exact ca_intB | exact ca_min2
  | exact od_i0 | exact od_b0
  | exact od_ixL rfl | exact od_ixT rfl
  | exact od_ixP0 (by assumption) | exact od_ixP1 (by assumption)
  | (refine od_i ?_; walk_at "num"))

abbrev rowD (r : List Int) : D := .list (r.map .int)
abbrev tabD (T : List (List Int)) : D := .list (T.map rowD)
theorem atI_row {T : List (List Int)} {i : Nat} (h : i < T.length) : atI (T.map rowD) (i : Nat) = some (rowD (T.getD i [])) := by
  refine atI_nat ?_
  rw [List.getElem?_map, List.getElem?_eq_getElem h, List.getD_eq_getElem?_getD, List.getElem?_eq_getElem h]; rfl
theorem atI_cell {r : List Int} {i : Nat} (h : i < r.length) : atI (r.map PyData.int) (i : Nat) = some (.int (r.getD i 0)) := by
  refine atI_nat ?_
  rw [List.getElem?_map, List.getElem?_eq_getElem h, List.getD_eq_getElem?_getD, List.getElem?_eq_getElem h]; rfl
def lineT (T : List (List Int)) (u j : Nat) : List Int := 1000000 :: (List.range j).map fun k => rowCell T u (k + 1)
theorem lineT_succ (T : List (List Int)) (u j : Nat) : lineT T u (j + 1) = lineT T u j ++ [rowCell T u (j + 1)] := by
  unfold lineT
  rw [List.range_succ, List.map_append]; rfl
theorem lineT_len (T : List (List Int)) (u j : Nat) : (lineT T u j).length = j + 1 := by
  unfold lineT; rw [List.length_cons, List.length_map, List.length_range]
theorem cpow10 {n : Int} (h : 0 ≤ n) (hn : n ≤ 100) : CPowW 10 n := by
  have b := PyProof.Rows.intBits_le (a := 10) (k := 4) (by decide)
  refine ⟨h, ?_⟩
  have e : (2 : Int) ^ 27 = 134217728 := by decide
  rw [e]
  have : (Builtin.Int.intBits 10 : Int) * n ≤ 4 * n := Int.mul_le_mul_of_nonneg_right (by omega) h
  omega
section
variable {P : Program} {w : World} {K : PySem.W.Frag} {mg : Str → Option Value} {base : Heap} {f : Addr} {fd : FuncData} {C : Addr}
abbrev s__law_table : Stmt := topS 44
abbrev n__law_table : List Str := ["_law_most", "_law_found", "_law_under", "_law_line", "_law_rest"]
theorem sc__law_table : FnScope n__law_table ["_law_most"] (defScope s__law_table) := ⟨rfl, rfl, rfl, by decide +kernel, rfl, by decide +kernel, by decide +kernel⟩
def pre_table (ds : List D) (r : D) : Prop := ds = [.int 60] ∧ r = tabD (tabT 59)
theorem ok__law_table (T : Bt mg) (F : Fun K "_law_table" "_law_table" s__law_table f fd) : FnOk P w K mg base CX0 1 f fd ["_law_most"] (spD K pre_table) := by
  refine fn_ok F sc__law_table (n := 4) rfl (fun ds r h => ?_) (fun cdv A outer s H vs Q E B ds r hr hp E0 q => ?_)
  · obtain ⟨rfl, _⟩ := h; rfl
  obtain ⟨rfl, rfl⟩ := hp
  refine ⟨_, (pss_cons (ps_set (i := 1) sc__law_table.nd rfl (by first | exact Or.inl rfl | exact Or.inr rfl) (pe_lst (pa_cons (pe_lst pa_nil) (pa_cons (pe_lst (pa_cons pe_int pa_nil)) pa_nil))))
      (pss_cons (ps_for PassesOwn.never rfl (pi_range2 rfl T.b_range (pa_cons pe_int (pa_cons (pe_op op_add (pv 0) pe_int) pa_nil))) (pg_name (i := 2) sc__law_table.nd rfl (by first | exact Or.inl rfl | exact Or.inr rfl)) (pss_cons (ps_set (i := 3) sc__law_table.nd rfl (by first | exact Or.inl rfl | exact Or.inr rfl) (pe_lst (pa_cons (pe_op op_powW pe_int pe_int) pa_nil)))
      (pss_cons (ps_for PassesOwn.never rfl (pi_range2 rfl T.b_range (pa_cons pe_int (pa_cons (pv 2) pa_nil))) (pg_name (i := 4) sc__law_table.nd rfl (by first | exact Or.inl rfl | exact Or.inr rfl)) (pss_one (ps_expr (pe_bm PySem.F.plainAttrs_list PySem.F.slot_list_append PySem.F.type_list_append mt_append (pv 3) (pa_cons (pe_op op_add pe_int (pe_callB (call_min2 rfl) (by rfl) T.b_min boot_min (pa_cons (pe_ix (k_ix K rfl) (pe_ix (k_ix K rfl) (pv 1) (pv 4) (fun _ _ => rfl)) (pe_op op_mod (pv 2) (pv 4)) (fun _ _ => rfl)) (pa_cons (pe_ix (k_ix K rfl) (pe_ix (k_ix K rfl) (pv 1) (pe_op op_sub (pv 2) (pv 4)) (fun _ _ => rfl)) (pe_op op_mod (pv 2) (pe_op op_sub (pv 2) (pv 4))) (fun _ _ => rfl)) pa_nil)))) pa_nil)))))
      (pss_one (ps_expr (pe_bm PySem.F.plainAttrs_list PySem.F.slot_list_append PySem.F.type_list_append mt_append (pv 1) (pa_cons (pv 3) pa_nil)))))))
      (pss_one (ps_ret (pv 1))))), ?_⟩
  refine q_asgO E0 (i := 1) (ds := (tabT 0).map rowD) (DL.is (dl_lst (da_cons (DL.de (dl_lst da_nil (by simp))) (da_cons (DL.de (dl_lst (da_cons de_int da_nil) (by simp))) da_nil)) (by simp)) rfl) fun l σ1 H1 E1 => ?_
  refine q_forX E1 (vs := [2]) (di_rng2 (lo := 2) (n := 61) de_int (DE.is (de_op (de_var rfl) de_int od_i0) rfl) ⟨by decide, by decide⟩ (by decide) (by decide)) (fun i Γ => ∃ (l : Addr) (s2 s3 s4 : Sl), Γ = [.dat (.int 60), .own l ((tabT i).map rowD), s2, s3, s4] ∧ (∀ l' es, s3 ≠ .own l' es)) ⟨l, _, _, _, rfl, fun _ _ e => by cases e⟩ (fun i d Γi hd hΓ => ?_) (fun B3 Γ3 σ3 H3 hΓ hs E3 => ?_)
  · obtain ⟨l, s2, s3, s4, rfl, no3⟩ := hΓ
    obtain ⟨hi, rfl⟩ := rgD_get hd
    have hi : i < 59 := hi
    rw [show (2 : Int) + (i : Nat) = ((i + 2 : Nat) : Int) by omega]
    have ok := tab_ok i
    refine ⟨_, fun B' => dg_name (by simp), fun B' H0' σ' H' hs' E2 N hN X Y Z => ?_⟩
    refine q_asgN E2 (i := 3) (ds := (lineT (tabT i) (i + 2) 0).map .int) (DL.is (dl_lst (da_cons (de_op de_int de_int (od_i (cpow10 (by decide) (by decide)))) da_nil) (by simp)) ?_) fun l2 σ3 H3 nl E3 => ?_
    · show [PyData.int ((10 : Int) ^ (6 : Int).toNat)] = [.int 1000000]
      rw [show ((10 : Int) ^ (6 : Int).toNat) = 1000000 by decide]
    refine q_forX E3 (vs := [4]) (di_rng2 (lo := 1) (n := ((i + 2 : Nat) : Int)) de_int (de_var rfl) ⟨by decide, by decide⟩ (by omega) (by omega)) (fun j Γ => ∃ s4 : Sl, Γ = [.dat (.int 60), .own l ((tabT i).map rowD), .dat (.int ((i + 2 : Nat) : Int)), .own l2 ((lineT (tabT i) (i + 2) j).map .int), s4]) ⟨_, rfl⟩ (fun j d Γj hd hΓ => ?_) (fun B4 Γ4 σ4 H4 hΓ hs4 E4 => ?_)
    · obtain ⟨s4, rfl⟩ := hΓ
      obtain ⟨hj, rfl⟩ := rgD_get hd
      have hj : j < i + 1 := by omega
      rw [show (1 : Int) + (j : Nat) = ((j + 1 : Nat) : Int) by omega]
      refine ⟨_, fun B' => dg_name (by simp), fun B5 H5' σ5 H5 hs5 E5 N5 hN5 X5 Y5 Z5 => ?_⟩
      have sub : ((i + 2 : Nat) : Int) - ((j + 1 : Nat) : Int) = ((i + 2 - (j + 1) : Nat) : Int) := by omega
      refine s_app E5 (i := 3) (d := .int (rowCell (tabT i) (i + 2) (j + 1))) rfl ?_ (by rw [List.length_map, lineT_len]; omega) fun H6 E6 => ?_
      · refine de_op de_int (de_cb (ds := [.int (cellT (tabT i) (j + 1) ((i + 2) % (j + 1))), .int (cellT (tabT i) (i + 2 - (j + 1)) ((i + 2) % (i + 2 - (j + 1))))]) (da_cons ?_ (da_cons ?_ da_nil)) ca_min2) od_i0
        · refine de_op (de_ixOwn (j := ((j + 1 : Nat) : Int)) rfl (de_var rfl) (atI_row (by rw [ok.len]; omega))) (DE.is (de_op (de_var rfl) (de_var rfl) (od_i (by show (0 : Int) < ((j + 1 : Nat) : Int); omega))) (congrArg PyData.int (Int.natCast_emod (i + 2) (j + 1)).symm)) (od_ixL (atI_cell ?_))
          rw [ok.row _ (by omega)]; exact Nat.mod_lt _ (by omega)
        · refine de_op (de_ixOwn (j := ((i + 2 - (j + 1) : Nat) : Int)) rfl (DE.is (de_op (de_var rfl) (de_var rfl) od_i0) (by rw [sub])) (atI_row (by rw [ok.len]; omega))) (DE.is (de_op (de_var rfl) (DE.is (de_op (de_var rfl) (de_var rfl) od_i0) (by rw [sub])) (od_i (by show (0 : Int) < ((i + 2 - (j + 1) : Nat) : Int); omega))) (congrArg PyData.int (Int.natCast_emod (i + 2) (i + 2 - (j + 1))).symm)) (od_ixL (atI_cell ?_))
          rw [ok.row _ (by omega)]; exact Nat.mod_lt _ (by omega)
      · have e : (lineT (tabT i) (i + 2) j).map PyData.int ++ [.int (rowCell (tabT i) (i + 2) (j + 1))] = (lineT (tabT i) (i + 2) (j + 1)).map .int := by
          rw [lineT_succ, List.map_append]; rfl
        rw [e] at E6
        exact hN5 _ _ _ _ ⟨_, rfl⟩ (fun b hb => hb) E6
    · obtain ⟨s4', rfl⟩ := hΓ
      have eline : lineT (tabT i) (i + 2) (rgD 1 (((i + 2 : Nat) : Int) - 1).toNat).length = rowT (tabT i) (i + 2) := by
        rw [rgD_len, show (((i + 2 : Nat) : Int) - 1).toNat = i + 1 by omega]; rfl
      rw [eline] at E4
      have E5 := E4.melt (i := 3) rfl
      refine s_app E5 (i := 1) (d := rowD (rowT (tabT i) (i + 2))) rfl (de_var rfl) (by rw [List.length_map, ok.len]; omega) fun H6 E6 => ?_
      have e : (tabT i).map rowD ++ [rowD (rowT (tabT i) (i + 2))] = (tabT (i + 1)).map rowD := by
        show _ = (tabT i ++ [rowT (tabT i) (i + 2)]).map rowD
        rw [List.map_append]; rfl
      rw [e] at E6
      refine hN _ _ _ _ ⟨l, _, _, _, rfl, fun _ _ e => by cases e⟩ (fun b hb => ?_) E6
      refine List.mem_filter.mpr ⟨hs4 b (List.mem_cons_of_mem _ hb), ?_⟩
      have : b ≠ l2 := fun e => nl (e ▸ hb)
      simpa using this
  · obtain ⟨l, s2, s3, s4, rfl, _⟩ := hΓ
    rw [rgD_len] at E3
    exact s_retO E3 (i := 1) rfl E0.bd (fun b hb => hs b (List.mem_cons_of_mem _ hb)) q
abbrev s__law_far : Stmt := topS 45
abbrev n__law_far : List Str := ["_law_table_here", "_law_over", "_law_under"]
theorem sc__law_far : FnScope n__law_far ["_law_table_here", "_law_over", "_law_under"] (defScope s__law_far) := ⟨rfl, rfl, rfl, by decide +kernel, rfl, by decide +kernel, by decide +kernel⟩
def pre_far (ds : List D) (r : D) : Prop := ∃ a b : Int, ds = [tabD (tabT 59), .int a, .int b] ∧ b.natAbs ≤ 60 ∧ Nat.gcd a.natAbs b.natAbs = 1 ∧ r = .int (LI a b : Nat)
theorem ok__law_far (T : Bt mg) (F : Fun K "_law_far" "_law_far" s__law_far f fd) : FnOk P w K mg base CX0 1 f fd ["_law_table_here", "_law_over", "_law_under"] (spD K pre_far) := by
  refine fn_ok F sc__law_far (n := 0) rfl (fun ds r h => ?_) (fun cdv A outer s H vs Q E B ds r hr hp E0 q => ?_)
  · obtain ⟨_, _, rfl, _⟩ := h; rfl
  obtain ⟨a, b, rfl, hb, hg, rfl⟩ := hp
  refine ⟨_, (pss_one (ps_ret (pe_ifExp (pt_cmpR (k_eq K rfl hr.units) (pv 2) pe_int (nomark _)) pe_int (pe_ix (k_ix K rfl) (pe_ix (k_ix K rfl) (pv 0) (pe_callB call_abs (by rfl) T.b_abs boot_abs (pa_cons (pv 2) pa_nil)) (fun _ _ => rfl)) (pe_op op_mod (pv 1) (pe_callB call_abs (by rfl) T.b_abs boot_abs (pa_cons (pv 2) pa_nil))) (fun _ _ => rfl))))), ?_⟩
  have eabs : (if b < 0 then -b else b) = (b.natAbs : Int) := by split <;> omega
  refine s_ret E0 (d := .int (LI a b : Nat)) (de_if (b := decide (b = 0)) ((dt_test (de_op (de_var rfl) de_int (od_eq (d1 := .int b) (d2 := .int 0) rfl rfl))).is ?_) (fun h0 => ?_) (fun h0 => ?_)) fun v H' E1 hv => q v H' E1.ex hv
  · show (b == 0) = _
    by_cases e : b = 0 <;> simp [e]
  · have h0 : b = 0 := by simpa using h0
    subst h0
    exact de_int
  · have h0 : b ≠ 0 := by simpa using h0
    have key := tab_far (n := 59) (over := a) h0 (by omega) hg
    have ok := tab_ok 59
    have e1 : 0 ≤ a % (b.natAbs : Int) := Int.emod_nonneg _ (by omega)
    have e2 := Int.emod_lt_of_pos a (show (0 : Int) < b.natAbs by omega)
    have e3 : a % (b.natAbs : Int) = (((a % (b.natAbs : Int)).toNat : Nat) : Int) := (Int.toNat_of_nonneg e1).symm
    rw [← key]
    refine de_op (de_op (de_var rfl) (DE.is (de_cb (ds := [.int b]) (da_cons (de_var rfl) da_nil) ca_abs) (by rw [eabs])) (od_ixL (atI_row (by rw [ok.len]; omega)))) (DE.is (de_op (de_var rfl) (DE.is (de_cb (ds := [.int b]) (da_cons (de_var rfl) da_nil) ca_abs) (by rw [eabs])) (od_i (by show (0 : Int) < (b.natAbs : Int); omega))) (congrArg PyData.int e3)) (od_ixL (atI_cell ?_))
    rw [ok.row _ (by omega)]; omega
abbrev s__law_lifted : Stmt := topS 47
abbrev n__law_lifted : List Str := ["_law_rows", "_law_to", "_law_weight", "_law_found", "_law_row", "_law_k"]
theorem sc__law_lifted : FnScope n__law_lifted ["_law_rows", "_law_to", "_law_weight"] (defScope s__law_lifted) := ⟨rfl, rfl, rfl, by decide +kernel, rfl, by decide +kernel, by decide +kernel⟩
def pre_lifted (ds : List D) (r : D) : Prop := ∃ (M : Mx) (to : Bool) (k : Int), ds = [.list (mD M), .int (b2n to), .int k] ∧ SzM 300 M ∧ Sz 300 k ∧ r = .list (mD ((Stp.lf to k).run M))
theorem ok__law_lifted (T : Bt mg) (F : Fun K "_law_lifted" "_law_lifted" s__law_lifted f fd) : FnOk P w K mg base CX0 1 f fd ["_law_rows", "_law_to", "_law_weight"] (spD K pre_lifted) := by
  refine fn_ok F sc__law_lifted (n := 3) rfl (fun ds r h => ?_) (fun cdv A outer s H vs Q E B ds r hr hp E0 q => ?_)
  · obtain ⟨_, _, _, rfl, _⟩ := h; rfl
  obtain ⟨M, to, k, rfl, zM, zk, rfl⟩ := hp
  refine ⟨_, (pss_cons (ps_setLc (i := 3) (own := [("_law_row", 4)]) rfl sc__law_lifted.nd rfl rfl (sw_true rfl rfl rfl (by decide +kernel)) (k_pl K rfl (pv 0)) (blkOk_by (by kernel_rfl)) (fun _ _ _ _ _ => pg_name (i := 4) sc__law_lifted.nd rfl (by first | exact Or.inl rfl | exact Or.inr rfl)) (fun _ _ _ _ _ => pts_nil) (fun _ _ _ _ _ => (pe_callTy (k_list K rfl) (by rfl) T.b_list boot_list (pa_cons (pv 4) pa_nil))))
      (pss_cons (ps_asg (pe_lc (own := [("_law_k", 5)]) rfl sc__law_lifted.nd (pi_range1 rfl T.b_range (pa_cons pe_int pa_nil)) (blkOk_by (by kernel_rfl)) (fun _ _ _ _ _ => pg_name (i := 5) sc__law_lifted.nd rfl (by first | exact Or.inl rfl | exact Or.inr rfl)) (fun _ _ _ _ _ => pts_nil) (fun _ _ _ _ _ => (pe_op op_add (pe_ix (k_ix K rfl) (pe_ix (k_ix K rfl) (pv 0) (pv 1) (fun _ _ => rfl)) (pv 5) (fun _ _ => rfl)) (pe_op op_mulW (pv 2) (pe_ix (k_ix K rfl) (pe_ix (k_ix K rfl) (pv 0) (pe_op op_sub pe_int (pv 1)) (fun _ _ => rfl)) (pv 5) (fun _ _ => rfl)))))) (pg_sub (pv 3) (pv 1) set_list))
      (pss_one (ps_ret (pv 3))))), ?_⟩
  refine q_asgO E0 (i := 3) (ds := mD M) (DL.is (dl_lc (xs := [(M.a, M.b), (M.c, M.d)]) (enc := pL) _ pL (di_list (ds := mD M) (de_var rfl)).dw (by simp) fun l x hx => ⟨dg_name (by simp), DL.de (dl_listL (de_var rfl))⟩) rfl) fun l σ1 H1 E1 => ?_
  obtain ⟨j, p, o, hj, hp, ho, zo, hres⟩ : ∃ (j : Nat) (p o : Int × Int), ixN 2 (b2n to) = some j ∧ atI (mD M) (b2n to) = some (pL p) ∧ atI (mD M) (1 - b2n to) = some (pL o) ∧ (Sz 300 o.1 ∧ Sz 300 o.2) ∧ mD ((Stp.lf to k).run M) = (mD M).set j (pL (p.1 + k * o.1, p.2 + k * o.2)) := by
    cases to
    · exact ⟨0, (M.a, M.b), (M.c, M.d), rfl, rfl, rfl, ⟨zM.c, zM.d⟩, rfl⟩
    · exact ⟨1, (M.c, M.d), (M.a, M.b), rfl, rfl, rfl, ⟨zM.a, zM.b⟩, rfl⟩
  rw [hres] at q
  refine q_setI E1 (i := 3) (l := l) (ds := mD M) (j := j) (z := b2n to) (d := pL (p.1 + k * o.1, p.2 + k * o.2)) rfl ?_ (de_var rfl) hj fun H6 E6 => ?_
  · refine DL.de (DL.is (dl_lc (xs := [0, 1]) (enc := PyData.int) _ (fun x => .int (colI x p + k * colI x o)) (DI.dw (DI.is (di_rng1 (n := 2) de_int (by decide) (by decide)) rg2)) (by simp) fun l x hx => ⟨dg_name (by simp), ?_⟩) rfl)
    refine de_op (de_op (de_op (de_var rfl) (de_var rfl) (od_ixL hp)) (de_var rfl) (od_ixL (atI_col hx p))) (de_op (de_var rfl) (de_op (de_op (de_var rfl) (de_op de_int (de_var rfl) od_i0) (od_ixL ho)) (de_var rfl) (od_ixL (atI_col hx o))) (od_i (mulW zk (n := 300) (m := 300) ?_ (by decide)))) od_i0
    unfold colI; split
    · exact zo.1
    · exact zo.2
  · exact s_retO E6 rfl E0.bd (fun b hb => List.mem_cons_of_mem _ hb) q
abbrev s__law_kin : Stmt := topS 51
abbrev n__law_kin : List Str := ["_law_rows", "_law_a", "_law_b", "_law_c", "_law_d", "_law_side", "_law_found"]
theorem sc__law_kin : FnScope n__law_kin ["_law_rows"] (defScope s__law_kin) := ⟨rfl, rfl, rfl, by decide +kernel, rfl, by decide +kernel, by decide +kernel⟩
def kinM (M : Mx) : List Mx := [M.tr, M.inv, M.swap, ⟨0 - M.a, 0 - M.b, M.c, M.d⟩, ⟨M.a, 0 - M.b, 0 - M.c, M.d⟩, M.rswap]
def pre_kin (ds : List D) (r : D) : Prop := ∃ M : Mx, ds = [.list (mD M)] ∧ SzM 100 M ∧ r = .list ((kinM M).map fun N => .list (mD N))
theorem ok__law_kin (T : Bt mg) (F : Fun K "_law_kin" "_law_kin" s__law_kin f fd) : FnOk P w K mg base CX0 1 f fd ["_law_rows"] (spD K pre_kin) := by
  refine fn_ok F sc__law_kin (n := 6) rfl (fun ds r h => ?_) (fun cdv A outer s H vs Q E B ds r hr hp E0 q => ?_)
  · obtain ⟨_, rfl, _⟩ := h; rfl
  obtain ⟨M, rfl, zM, rfl⟩ := hp
  refine ⟨_, (pss_cons (ps_asg (pe_ix (k_ix K rfl) (pv 0) pe_int (fun _ _ => rfl)) (k_gunl K (n := 2) rfl rfl (pgs_cons (pg_name (i := 1) sc__law_kin.nd rfl (by first | exact Or.inl rfl | exact Or.inr rfl)) (pgs_cons (pg_name (i := 2) sc__law_kin.nd rfl (by first | exact Or.inl rfl | exact Or.inr rfl)) pgs_nil))))
      (pss_cons (ps_asg (pe_ix (k_ix K rfl) (pv 0) pe_int (fun _ _ => rfl)) (k_gunl K (n := 2) rfl rfl (pgs_cons (pg_name (i := 3) sc__law_kin.nd rfl (by first | exact Or.inl rfl | exact Or.inr rfl)) (pgs_cons (pg_name (i := 4) sc__law_kin.nd rfl (by first | exact Or.inl rfl | exact Or.inr rfl)) pgs_nil))))
      (pss_cons (ps_set (i := 5) sc__law_kin.nd rfl (by first | exact Or.inl rfl | exact Or.inr rfl) (pe_op op_sub (pe_op op_mulW (pv 1) (pv 4)) (pe_op op_mulW (pv 2) (pv 3))))
      (pss_cons (ps_set (i := 6) sc__law_kin.nd rfl (by first | exact Or.inl rfl | exact Or.inr rfl) (pe_lst (pa_cons (pe_lst (pa_cons (pe_lst (pa_cons (pv 1) (pa_cons (pv 3) pa_nil))) (pa_cons (pe_lst (pa_cons (pv 2) (pa_cons (pv 4) pa_nil))) pa_nil))) (pa_cons (pe_lst (pa_cons (pe_lst (pa_cons (pe_op op_mulW (pv 4) (pv 5)) (pa_cons (pe_op op_sub pe_int (pe_op op_mulW (pv 2) (pv 5))) pa_nil))) (pa_cons (pe_lst (pa_cons (pe_op op_sub pe_int (pe_op op_mulW (pv 3) (pv 5))) (pa_cons (pe_op op_mulW (pv 1) (pv 5)) pa_nil))) pa_nil))) pa_nil))))
      (pss_one (ps_ret (pe_op (k_cat K rfl) (pv 6) (pe_lst (pa_cons (pe_lst (pa_cons (pe_lst (pa_cons (pv 3) (pa_cons (pv 4) pa_nil))) (pa_cons (pe_lst (pa_cons (pv 1) (pa_cons (pv 2) pa_nil))) pa_nil))) (pa_cons (pe_lst (pa_cons (pe_lst (pa_cons (pe_op op_sub pe_int (pv 1)) (pa_cons (pe_op op_sub pe_int (pv 2)) pa_nil))) (pa_cons (pe_lst (pa_cons (pv 3) (pa_cons (pv 4) pa_nil))) pa_nil))) (pa_cons (pe_lst (pa_cons (pe_lst (pa_cons (pv 1) (pa_cons (pe_op op_sub pe_int (pv 2)) pa_nil))) (pa_cons (pe_lst (pa_cons (pe_op op_sub pe_int (pv 3)) (pa_cons (pv 4) pa_nil))) pa_nil))) (pa_cons (pe_lst (pa_cons (pe_lst (pa_cons (pv 2) (pa_cons (pv 1) pa_nil))) (pa_cons (pe_lst (pa_cons (pv 4) (pa_cons (pv 3) pa_nil))) pa_nil))) pa_nil)))))))))))), ?_⟩
  have zs : Sz 201 M.det := (zM.a.mul zM.d).sub (zM.b.mul zM.c)
  refine q_asgG E0 (vs := [1, 2]) (d := pL (M.a, M.b)) (de_op (de_var rfl) de_int (od_ixL rfl)) (dg_pairL (by simp) (by simp)) fun σ1 H1 E1 => ?_
  refine q_asgG E1 (vs := [3, 4]) (d := pL (M.c, M.d)) (de_op (de_var rfl) de_int (od_ixL rfl)) (dg_pairL (by simp) (by simp)) fun σ2 H2 E2 => ?_
  refine q_asg E2 (i := 5) (d := .int M.det) (de_op (de_op (de_var rfl) (de_var rfl) (od_i (mulW zM.a zM.d (by decide)))) (de_op (de_var rfl) (de_var rfl) (od_i (mulW zM.b zM.c (by decide)))) od_i0) fun σ3 H3 E3 => ?_
  refine q_asg E3 (i := 6) (d := .list [.list (mD M.tr), .list (mD M.inv)]) ?_ fun σ4 H4 E4 => ?_
  · have m1 : CMulW M.d M.det := mulW zM.d zs (by decide)
    have m2 : CMulW M.b M.det := mulW zM.b zs (by decide)
    have m3 : CMulW M.c M.det := mulW zM.c zs (by decide)
    have m4 : CMulW M.a M.det := mulW zM.a zs (by decide)
    have p2 : ∀ {ta tb : TE} {Γ : List Sl} {x y : Int}, DE K B ta Γ (.int x) → DE K B tb Γ (.int y) → DE K B (tLst (tCons ta (tCons tb tNil))) Γ (pL (x, y)) := fun h k => DL.de (dl_lst (da_cons h (da_cons k da_nil)) (by simp))
    have l2 : ∀ {ta tb : TE} {Γ : List Sl} {x y : D}, DE K B ta Γ x → DE K B tb Γ y → DE K B (tLst (tCons ta (tCons tb tNil))) Γ (.list [x, y]) := fun h k => DL.de (dl_lst (da_cons h (da_cons k da_nil)) (by simp))
    exact l2 (l2 (p2 (de_var rfl) (de_var rfl)) (p2 (de_var rfl) (de_var rfl))) (l2 (p2 (de_op (de_var rfl) (de_var rfl) (od_i m1)) (de_op de_int (de_op (de_var rfl) (de_var rfl) (od_i m2)) od_i0)) (p2 (de_op de_int (de_op (de_var rfl) (de_var rfl) (od_i m3)) od_i0) (de_op (de_var rfl) (de_var rfl) (od_i m4))))
  · have p2 : ∀ {ta tb : TE} {Γ : List Sl} {x y : Int}, DE K B ta Γ (.int x) → DE K B tb Γ (.int y) → DE K B (tLst (tCons ta (tCons tb tNil))) Γ (pL (x, y)) := fun h k => DL.de (dl_lst (da_cons h (da_cons k da_nil)) (by simp))
    have l2 : ∀ {ta tb : TE} {Γ : List Sl} {x y : D}, DE K B ta Γ x → DE K B tb Γ y → DE K B (tLst (tCons ta (tCons tb tNil))) Γ (.list [x, y]) := fun h k => DL.de (dl_lst (da_cons h (da_cons k da_nil)) (by simp))
    refine s_ret E4 (d := .list ((kinM M).map fun N => .list (mD N))) (DL.de (DL.is (dl_op (ds := [.list (mD M.tr), .list (mD M.inv)] ++ [.list (mD M.swap), .list (mD ⟨0 - M.a, 0 - M.b, M.c, M.d⟩), .list (mD ⟨M.a, 0 - M.b, 0 - M.c, M.d⟩), .list (mD M.rswap)]) (de_var rfl) (DL.de (dl_lst (ds := [.list (mD M.swap), .list (mD ⟨0 - M.a, 0 - M.b, M.c, M.d⟩), .list (mD ⟨M.a, 0 - M.b, 0 - M.c, M.d⟩), .list (mD M.rswap)]) ?_ (by simp))) (ol_cat (by simp))) rfl)) fun v H' E5 hv => q v H' E5.ex hv
    exact da_cons (l2 (p2 (de_var rfl) (de_var rfl)) (p2 (de_var rfl) (de_var rfl))) (da_cons (l2 (p2 (de_op de_int (de_var rfl) od_i0) (de_op de_int (de_var rfl) od_i0)) (p2 (de_var rfl) (de_var rfl))) (da_cons (l2 (p2 (de_var rfl) (de_op de_int (de_var rfl) od_i0)) (p2 (de_op de_int (de_var rfl) od_i0) (de_var rfl))) (da_cons (l2 (p2 (de_var rfl) (de_var rfl)) (p2 (de_var rfl) (de_var rfl))) da_nil)))
end
end WS
namespace WS
open PySem PySem.Spec PyProof.Rows L2
local macro_rules | `(tactic| walk_at "num") => `(tactic| first | assumption | exact mulW (by assumption) (by assumption) (by decide))
local macro_rules | `(tactic| walk_at "de") => `(tactic| first
  | exact de_int | exact de_str | exact de_bl | exact de_non | exact de_var rfl | exact da_nil | exact do_none | assumption
  | ((with_reducible apply da_cons) <;> walk_at "de")
  | ((with_reducible apply de_tup) <;> first | walk_at "de" | (simp; done))
  | ((with_reducible apply de_op) <;> walk_at "de")
  | ((with_reducible show DE _ _ (tCB (rIsi _) (tCons _ (tCons (tC (.ty "int")) tNil))) _ _); apply isi_int; walk_at "de")
  | ((with_reducible show DE _ _ (tCB (rIsi _) (tCons _ (tCons (tC (.ty "bool")) tNil))) _ _); apply isi_bool; walk_at "de")
  | ((with_reducible show DE _ _ (tCB (rIsi _) (tCons _ (tCons (tC (.ty "list")) tNil))) _ _); apply isi_list; walk_at "de")
  | ((with_reducible show DE _ _ (tCB (rIsi _) (tCons _ (tCons (tC (.ty "tuple")) tNil))) _ _); apply isi_tup; walk_at "de")
  | ((with_reducible apply de_cb) <;> walk_at "de")
  | ((with_reducible apply de_neg) <;> walk_at "de")
  | ((with_reducible apply dt_test) <;> walk_at "de")
  | ((with_reducible apply dt_B) <;> walk_at "de")
  | ((with_reducible apply dt_not) <;> walk_at "de")
  | ((with_reducible apply de_notV) <;> walk_at "de")
  | ((with_reducible apply do_some) <;> walk_at "de")
  | exact ca_lenL | exact ca_lenT | exact ca_abs | exact ca_intI | exact ca_intB | exact ca_min2
  | exact od_i0 | exact od_b0
  | exact od_ixL rfl | exact od_ixT rfl
  | exact od_ixP0 (by assumption) | exact od_ixP1 (by assumption)
  | (refine od_i ?_; walk_at "num"))

theorem lay_pL' (x : Int × Int) : (pL x).canLay0 = true := rfl
structure Le60 (g : Int × Int) : Prop where
  x : g.1.natAbs ≤ 60
  y : g.2.natAbs ≤ 60
theorem up_pl {x : Int × Int} (h : up x = true) : pL x = pL (placed x) := by unfold placed; rw [if_pos h]
theorem dn_pl {x : Int × Int} (h : up x = false) : pL (0 - x.1, 0 - x.2) = pL (placed x) := by unfold placed; rw [if_neg (by rw [h]; exact Bool.false_ne_true)]
section
variable {P : Program} {w : World} {K : PySem.W.Frag} {mg : Str → Option Value} {base : Heap} {f : Addr} {fd : FuncData} {C : Addr}
abbrev s__law_due : Stmt := topS 46
abbrev n__law_due : List Str := ["_law_table_here", "_law_rows", "_law_places", "_law_down", "_law_row"]
theorem sc__law_due : FnScope n__law_due ["_law_table_here", "_law_rows"] (defScope s__law_due) := ⟨rfl, rfl, rfl, by decide +kernel, rfl, by decide +kernel, by decide +kernel⟩
def pre_due (ds : List D) (r : D) : Prop := ∃ g h : Int × Int, ds = [tabD (tabT 59), .list [pL g, pL h]] ∧ Le60 g ∧ Le60 h ∧ (dt g h = 1 ∨ dt g h = -1) ∧ r = .int (fw (mxOf g h) : Nat)
theorem ok__law_due (T : Bt mg) (F : Fun K "_law_due" "_law_due" s__law_due f fd) (F__law_far : Fn P w K mg base "_law_far" 1 ["_law_table_here", "_law_over", "_law_under"] (spD K pre_far)) : FnOk P w K mg base CX0 2 f fd ["_law_table_here", "_law_rows"] (spD K pre_due) := by
  refine fn_ok F sc__law_due (n := 3) rfl (fun ds r h => ?_) (fun cdv A outer s H vs Q E B ds r hr hp E0 q => ?_)
  · obtain ⟨_, _, rfl, _⟩ := h; rfl
  obtain ⟨g, h, rfl, zg, zh, hu, rfl⟩ := hp
  refine ⟨_, (pss_cons (ps_setLc (i := 2) (own := [("_law_row", 4)]) rfl sc__law_due.nd rfl rfl (sw_true rfl rfl rfl (by decide +kernel)) (k_pl K rfl (pv 1)) (blkOk_by (by kernel_rfl)) (fun _ _ _ _ _ => pg_name (i := 4) sc__law_due.nd rfl (by first | exact Or.inl rfl | exact Or.inr rfl)) (fun _ _ _ _ _ => pts_nil) (fun _ _ _ _ _ => (pe_ifExp (PW.pt (pw_or (pt_cmpR op_gt (pe_ix (k_ix K rfl) (pv 4) pe_int (fun _ _ => rfl)) pe_int (nomark _)) (pw_or1 (PW.pt (pw_and (pt_cmpR (k_eq K rfl hr.units) (pe_ix (k_ix K rfl) (pv 4) pe_int (fun _ _ => rfl)) pe_int (nomark _)) (pw_and1 (pt_cmpR op_gt (pe_ix (k_ix K rfl) (pv 4) pe_int (fun _ _ => rfl)) pe_int (nomark _)))))))) (pv 4) (pe_lst (pa_cons (pe_op op_sub pe_int (pe_ix (k_ix K rfl) (pv 4) pe_int (fun _ _ => rfl))) (pa_cons (pe_op op_sub pe_int (pe_ix (k_ix K rfl) (pv 4) pe_int (fun _ _ => rfl))) pa_nil))))))
      (pss_cons (ps_if (pt_cmpR (k_eq K rfl hr.units) (pe_callB (k_sort K rfl hr.units) (by rfl) T.b_sorted boot_sorted (pa_cons (pv 2) pa_nil)) (pe_lst (pa_cons (pe_lst (pa_cons pe_int (pa_cons pe_int pa_nil))) (pa_cons (pe_lst (pa_cons pe_int (pa_cons pe_int pa_nil))) pa_nil))) (nomark _)) (pss_one (ps_ret pe_int)) pss_nil)
      (pss_cons (ps_setLc (i := 3) (own := [("_law_row", 4)]) rfl sc__law_due.nd rfl rfl (sw_true rfl rfl rfl (by decide +kernel)) (k_pl K rfl (pv 1)) (blkOk_by (by kernel_rfl)) (fun _ _ _ _ _ => pg_name (i := 4) sc__law_due.nd rfl (by first | exact Or.inl rfl | exact Or.inr rfl)) (fun _ _ _ _ _ => pts_nil) (fun _ _ _ _ _ => (pe_fn F__law_far (hr.mono (by decide)) (by rfl) (pa_cons (pv 0) (pa_cons (pe_ix (k_ix K rfl) (pv 4) pe_int (fun _ _ => rfl)) (pa_cons (pe_ix (k_ix K rfl) (pv 4) pe_int (fun _ _ => rfl)) pa_nil))))))
      (pss_one (ps_ret (pe_op op_add pe_int (pe_callB (k_min K rfl rfl) (by rfl) T.b_min boot_min (pa_cons (pe_op (k_cat K rfl) (pv 3) (pe_lc (own := [("_law_row", 4)]) rfl sc__law_due.nd (k_pl K rfl (pv 1)) (blkOk_by (by kernel_rfl)) (fun _ _ _ _ _ => pg_name (i := 4) sc__law_due.nd rfl (by first | exact Or.inl rfl | exact Or.inr rfl)) (fun _ _ _ _ _ => pts_nil) (fun _ _ _ _ _ => (pe_fn F__law_far (hr.mono (by decide)) (by rfl) (pa_cons (pv 0) (pa_cons (pe_ix (k_ix K rfl) (pv 4) pe_int (fun _ _ => rfl)) (pa_cons (pe_ix (k_ix K rfl) (pv 4) pe_int (fun _ _ => rfl)) pa_nil))))))) pa_nil)))))))), ?_⟩
  have hs : ∀ x : Int × Int, x ∈ [g, h] → Le60 x ∧ Nat.gcd x.1.natAbs x.2.natAbs = 1 := fun x hx => by
    simp only [List.mem_cons, List.not_mem_nil, or_false] at hx
    rcases hx with rfl | rfl
    · exact ⟨zg, gcd_of_det hu⟩
    · refine ⟨zh, gcd_of_det (c := g.1) (d := g.2) ?_⟩
      have e := dt_swap g x
      unfold dt at e hu
      omega
  refine q_asg E0 (i := 2) (d := .list [pL (placed g), pL (placed h)]) (DL.de (DL.is (dl_lc (xs := [g, h]) (enc := pL) _ (fun x => pL (placed x)) (di_list (ds := [pL g, pL h]) (de_var rfl)).dw (by simp) fun l x hx => ⟨dg_name (by simp), ?_⟩) rfl)) fun σ1 H1 E1 => ?_
  · refine de_if (b := up x) ?_ (fun hb => ?_) (fun hb => ?_)
    · have t1 : (decide (x.2 > 0) : Bool) = decide (0 < x.2) := rfl
      refine DT.is (dt_or (a := decide (0 < x.2)) (b := decide (x.2 = 0) && decide (0 < x.1)) (dt_test (de_op (de_op (de_var rfl) de_int (od_ixL rfl)) de_int od_b0)) fun _ => dt_and (a := decide (x.2 = 0)) (b := decide (0 < x.1)) ((dt_test (de_op (de_op (de_var rfl) de_int (od_ixL rfl)) de_int (od_eq (d1 := .int x.2) (d2 := .int 0) rfl rfl))).is ?_) fun _ => (dt_test (de_op (de_op (de_var rfl) de_int (od_ixL rfl)) de_int od_b0))) rfl
      show (x.2 == 0) = _
      by_cases e : x.2 = 0 <;> simp [e]
    · rw [← up_pl hb]; exact de_var rfl
    · rw [← dn_pl hb]
      exact DL.de (dl_lst (da_cons (de_op de_int (de_op (de_var rfl) de_int (od_ixL rfl)) od_i0) (da_cons (de_op de_int (de_op (de_var rfl) de_int (od_ixL rfl)) od_i0) da_nil)) (by simp))
  have so := sortable_pL (placed g) (placed h)
  refine q_when E1 (b := unitP g h) ?_ (fun hb H2 E2 => ?_) fun hb H2 E2 => ?_
  · refine (dt_test (de_op (de_cb (ds := [.list [pL (placed g), pL (placed h)]]) (da_cons (de_var rfl) da_nil) (ca_sortD so.1 so.2 (by simp) (by simp [dep_pL]))) (DL.de (dl_lst (ds := [pL (0, 1), pL (1, 0)]) (da_cons (DL.de (dl_lst (da_cons de_int (da_cons de_int da_nil)) (by simp))) (da_cons (DL.de (dl_lst (da_cons de_int (da_cons de_int da_nil)) (by simp))) da_nil)) (by simp))) (od_eq (shaped_sort _ _ (lay_pL' _) (lay_pL' _) (Nat.le_of_eq (dep_pL _)) (Nat.le_of_eq (dep_pL _)) (by decide)) (shaped_2 (lay_pL' _) (lay_pL' _) (Nat.le_of_eq (dep_pL _)) (Nat.le_of_eq (dep_pL _)) (by decide))))).is ?_
    rw [sorted_unitL]; rfl
  · have e : fw (mxOf g h) = 0 := by
      unfold fw
      rw [if_pos (by rw [← unitP_eq hu]; exact hb)]
    rw [e] at q
    exact s_ret E2 (d := .int 0) de_int fun v H' E3 hv => q v H' E3.ex hv
  have e : fw (mxOf g h) = 1 + m4 (LI g.1 g.2) (LI h.1 h.2) (LI g.2 g.1) (LI h.2 h.1) := by
    unfold fw
    rw [if_neg (by rw [← unitP_eq hu, hb]; exact Bool.false_ne_true)]; rfl
  rw [e] at q
  refine q_asg E2 (i := 3) (d := .list [.int (LI g.1 g.2 : Nat), .int (LI h.1 h.2 : Nat)]) (DL.de (DL.is (dl_lc (xs := [g, h]) (enc := pL) _ (fun x => .int (LI x.1 x.2 : Nat)) (di_list (ds := [pL g, pL h]) (de_var rfl)).dw (by simp) fun l x hx => ⟨dg_name (by simp), ?_⟩) rfl)) fun σ3 H3 E3 => ?_
  · obtain ⟨z, k⟩ := hs x hx
    exact de_call (ds := [tabD (tabT 59), .int x.1, .int x.2]) (da_cons (de_var rfl) (da_cons (de_op (de_var rfl) de_int (od_ixL rfl)) (da_cons (de_op (de_var rfl) de_int (od_ixL rfl)) da_nil))) ⟨x.1, x.2, rfl, z.y, k, rfl⟩
  have mmem := m4_mem (LI g.1 g.2) (LI h.1 h.2) (LI g.2 g.1) (LI h.2 h.1)
  have mle : ∀ {a b c d : Nat}, m4 a b c d ≤ a ∧ m4 a b c d ≤ b ∧ m4 a b c d ≤ c ∧ m4 a b c d ≤ d := by unfold m4; omega
  obtain ⟨le1, le2, le3, le4⟩ := mle (a := LI g.1 g.2) (b := LI h.1 h.2) (c := LI g.2 g.1) (d := LI h.2 h.1)
  generalize m4 (LI g.1 g.2) (LI h.1 h.2) (LI g.2 g.1) (LI h.2 h.1) = m at *
  refine s_ret E3 (d := .int ((1 + m : Nat) : Int)) (DE.is (de_op de_int (de_cb (ds := [.list ([((LI g.1 g.2 : Nat) : Int), ((LI h.1 h.2 : Nat) : Int), ((LI g.2 g.1 : Nat) : Int), ((LI h.2 h.1 : Nat) : Int)].map PyData.int)]) (da_cons (DL.de (DL.is (dl_op (ds := [.int (LI g.1 g.2 : Nat), .int (LI h.1 h.2 : Nat)] ++ [.int (LI g.2 g.1 : Nat), .int (LI h.2 h.1 : Nat)]) (de_var rfl) (DL.de (DL.is (dl_lc (xs := [g, h]) (enc := pL) _ (fun x => .int (LI x.2 x.1 : Nat)) (di_list (ds := [pL g, pL h]) (de_var rfl)).dw (by simp) fun l x hx => ⟨dg_name (by simp), ?_⟩) rfl)) (ol_cat (by simp))) rfl)) da_nil) (ca_min (m := (m : Int)) ?_ ?_)) od_i0) ?_) fun v H' E4 hv => q v H' E4.ex hv
  · obtain ⟨z, k⟩ := hs x hx
    exact de_call (ds := [tabD (tabT 59), .int x.2, .int x.1]) (da_cons (de_var rfl) (da_cons (de_op (de_var rfl) de_int (od_ixL rfl)) (da_cons (de_op (de_var rfl) de_int (od_ixL rfl)) da_nil))) ⟨x.2, x.1, rfl, z.x, by rw [Nat.gcd_comm]; exact k, rfl⟩
  · simp only [List.mem_cons, List.not_mem_nil, or_false]
    omega
  · intro y hy
    simp only [List.mem_cons, List.not_mem_nil, or_false] at hy
    omega
  · congr 1
end
end WS
/-! The purse: a list of three numbers that every draw changes. -/
namespace WS
open PySem PySem.Spec PyProof.Rows L2
structure Pu where
  a : Int
  b : Int
  c : Int
def Pu.ds (u : Pu) : List D := [.int u.a, .int u.b, .int u.c]
def Pu.vs (u : Pu) : List V := [.int u.a, .int u.b, .int u.c]
structure PuOk (k : Nat) (u : Pu) : Prop where
  a0 : 0 ≤ u.a
  b0 : 0 ≤ u.b
  b1 : u.b < 2147483648
  c0 : 0 ≤ u.c
  c1 : u.c ≤ k
theorem PuOk.mono {k m : Nat} {u : Pu} (h : PuOk k u) (hm : k ≤ m) : PuOk m u := ⟨h.a0, h.b0, h.b1, h.c0, by have := h.c1; omega⟩
structure Chg (p : Addr) (u : Pu) (H H' : Hp) : Prop where
  same : Same (msk [p] H) H'
  at_ : H' p = some (.lst u.vs)
section
variable {K : PySem.W.Frag} {B : List Addr} {H0 H H' H1 H2 : Hp} {σ : L2.St} {Γ Γ' : List Sl} {te ta tb : TE} {tt : TT} {tr : TA} {d d1 d2 : D} {ds es : List D} {p : Addr} {u u' : Pu} {i : Nat}
theorem msk1_ne {a : Addr} (h : a ≠ p) : msk [p] H a = H a := msk_out (by simpa using h)
theorem Chg.get (c : Chg p u H H') {a : Addr} {o : HO} (h : a ≠ p) (q : H a = some o) : H' a = some o := c.same a o (by rw [msk1_ne h]; exact q)
theorem Chg.trans (c : Chg p u H H1) (c' : Chg p u' H1 H2) : Chg p u' H H2 := ⟨fun a o q => by
  obtain ⟨n, q⟩ := msk_some q
  have n : a ≠ p := by simpa using n
  exact c'.get n (c.get n q), c'.at_⟩
theorem Chg.grow (c : Chg p u H H1) (e : Same H1 H2) : Chg p u H H2 := ⟨fun a o q => e _ _ (c.same a o q), e _ _ c.at_⟩
theorem Chg.of (e : Same H H1) (c : Chg p u H1 H2) : Chg p u H H2 := ⟨fun a o q => c.same a o (by
  obtain ⟨n, q⟩ := msk_some q
  rw [msk_out n]; exact e _ _ q), c.at_⟩
theorem Chg.msk (c : Chg p u H H') (hp : p ∈ B) : Same (msk B H) (msk B H') := fun a o q => by
  obtain ⟨n, q⟩ := msk_some q
  rw [msk_out n]
  exact c.get (fun e => n (e ▸ hp)) q
theorem Chg.bnd (c : Chg p u H H') (h : Bnd B H) : Bnd B H' := fun b hb => by
  by_cases e : b = p
  · exact ⟨_, by rw [e]; exact c.at_⟩
  · obtain ⟨o, q⟩ := h b hb
    exact ⟨o, c.get e q⟩
theorem vs_ds (u : Pu) : DpAll K H u.vs u.ds := .cons (.int _) (.cons (.int _) (.cons (.int _) .nil))
theorem vs_of {vs : List V} (h : DpAll K H vs u.ds) : vs = u.vs := DpAll.ints (ns := [u.a, u.b, u.c]) h
theorem Env.chg (E : Env K B H0 σ H Γ) (hi : Γ[i]? = some (.own p ds)) (c : Chg p u' H H') : Env K B H0 σ H' (Γ.set i (.own p u'.ds)) := by
  obtain ⟨z1, z2, vs, z3, z4⟩ := E.at_ i _ hi
  have em := c.msk z2
  refine ⟨by rw [List.length_set]; exact E.len, fun j s q => ?_, fun a o q => ?_, c.bnd E.bnd, fun j l es q => ?_, fun j k l es fs q r => ?_⟩
  · rcases set_get q with ⟨e1, e2, e3⟩ | ⟨e1, e2⟩
    · subst e1 e2
      exact ⟨z1, z2, _, c.at_, vs_ds _⟩
    · refine (E.at_ j s e2).mono em fun l es vs' e hl => ?_
      subst e
      exact c.get (fun e => e1 (E.inj i j p ds es hi (e ▸ e2))) hl
  · exact c.get (ne_of_none q (E.new i p ds hi)) (E.ex a o q)
  · rcases set_get q with ⟨_, e2, _⟩ | ⟨_, e2⟩
    · injection e2 with e3 e4; rw [e3]; exact E.new i p _ hi
    · exact E.new j l es e2
  · rcases set_get q with ⟨e1, e2, _⟩ | ⟨e1, e2⟩
    · rcases set_get r with ⟨e4, e3, _⟩ | ⟨e4, e3⟩
      · exact e1.symm.trans e4
      · injection e2 with e5 e6
        exact e1.symm.trans (E.inj i k p ds _ hi (e5 ▸ e3))
    · rcases set_get r with ⟨e4, e3, _⟩ | ⟨e4, e3⟩
      · injection e3 with e5 e6
        exact (E.inj i j p ds _ hi (e5 ▸ e2)).symm.trans e4
      · exact E.inj j k l _ _ e2 e3
theorem Env.chg0 (E : Env K B H0 σ H Γ) (hi : Γ[i]? = some (.own p u.ds)) (e : Same H H') : Chg p u H H' := by
  obtain ⟨z1, z2, vs, z3, z4⟩ := E.at_ i _ hi
  rw [vs_of z4] at z3
  exact ⟨fun a o q => e _ _ (msk_some q).2, e _ _ z3⟩
/-- slots that differ by the purse alone -/
structure Pf (i : Nat) (p : Addr) (Γf : Pu → List Sl) : Prop where
  at_ : ∀ u, (Γf u)[i]? = some (.own p u.ds)
  set : ∀ u u', (Γf u).set i (.own p u'.ds) = Γf u'
variable {Γf Γg : Pu → List Sl} {n n1 n2 : Nat} {R Ra Rb : D → Prop}
theorem Pf.env (f : Pf i p Γf) (E : Env K B H0 σ H (Γf u)) (c : Chg p u' H H') : Env K B H0 σ H' (Γf u') := by
  have := E.chg (f.at_ u) c
  rw [f.set] at this
  exact this
theorem Pf.put (f : Pf i p Γf) {j : Nat} (h : j ≠ i) (s : Sl) : Pf i p (fun u => (Γf u).set j s) :=
  ⟨fun u => by rw [List.getElem?_set_ne h]; exact f.at_ u, fun u u' => by rw [List.set_comm _ _ h, f.set]⟩
/-- an expression that may draw n times; its worth is one of R -/
def DS (K : PySem.W.Frag) (B : List Addr) (p : Addr) (te : TE) (Γf : Pu → List Sl) (n : Nat) (R : D → Prop) : Prop := ∀ (k : Nat) (u : Pu), k + n ≤ 100000 → PuOk k u → ∀ (H0 : Hp) (σ : L2.St) (H : Hp), Env K B H0 σ H (Γf u) → ∀ Q : VK,
  (∀ v H' d u', R d → PuOk (k + n) u' → Chg p u' H H' → Dp K (msk B H') v d → Q v H') → te σ H Q
def DAS (K : PySem.W.Frag) (B : List Addr) (p : Addr) (tr : TA) (Γf : Pu → List Sl) (n : Nat) (R : List D → Prop) : Prop := ∀ (k : Nat) (u : Pu), k + n ≤ 100000 → PuOk k u → ∀ (H0 : Hp) (σ : L2.St) (H : Hp), Env K B H0 σ H (Γf u) → ∀ Q : List V → Hp → Prop,
  (∀ vs H' ds u', R ds → PuOk (k + n) u' → Chg p u' H H' → DpAll K (msk B H') vs ds → Q vs H') → tr σ H Q
theorem DS.imp (h : DS K B p te Γf n1 Ra) (hn : n1 ≤ n) (hR : ∀ d, Ra d → R d) : DS K B p te Γf n R := fun k u hk hu H0 σ H E Q q =>
  h k u (by omega) hu H0 σ H E Q fun v H' d u' a b c e => q v H' d u' (hR d a) (b.mono (by omega)) c e
theorem ds_pure (f : Pf i p Γf) (h : ∀ u, DE K B te (Γf u) d) : DS K B p te Γf 0 (· = d) := fun k u hk hu H0 σ H E Q q =>
  h u H0 σ H E Q fun v H' e hv => q v H' d u rfl hu (E.chg0 (f.at_ u) e) hv
theorem das_pure (f : Pf i p Γf) (h : ∀ u, DA K B tr (Γf u) ds) : DAS K B p tr Γf 0 (· = ds) := fun k u hk hu H0 σ H E Q q =>
  h u H0 σ H E Q fun v H' e hv => q v H' ds u rfl hu (E.chg0 (f.at_ u) e) hv
theorem das_cons (f : Pf i p Γf) {RR : List D → Prop} (h : DS K B p te Γf n1 Ra) (hr : DAS K B p tr Γf n2 RR) : DAS K B p (tCons te tr) Γf (n1 + n2) (fun ds => ∃ d es, ds = d :: es ∧ Ra d ∧ RR es) := fun k u hk hu H0 σ H E Q q =>
  h k u (by omega) hu H0 σ H E _ fun v H1 d u1 a b c e => hr (k + n1) u1 (by omega) b H0 σ H1 (f.env E c) _ fun vs H2 es u2 a2 b2 c2 e2 => by
    have hp : p ∈ B := (E.at_ i _ (f.at_ u)).2.1
    exact q _ H2 (d :: es) u2 ⟨d, es, rfl, a, a2⟩ (by rw [← Nat.add_assoc]; exact b2) (c.trans c2) (.cons (e.ex (c2.msk hp)) e2)
theorem ds_op (f : Pf i p Γf) {r : R2} (h1 : DS K B p ta Γf n1 Ra) (h2 : DS K B p tb Γf n2 Rb) (h : ∀ x y, Ra x → Rb y → ∃ d, OpD K B r x y d ∧ R d) : DS K B p (tOp r ta tb) Γf (n1 + n2) R := fun k u hk hu H0 σ H E Q q =>
  h1 k u (by omega) hu H0 σ H E _ fun x H1 dx u1 a b c e => h2 (k + n1) u1 (by omega) b H0 σ H1 (f.env E c) _ fun y H2 dy u2 a2 b2 c2 e2 => by
    have hp : p ∈ B := (E.at_ i _ (f.at_ u)).2.1
    obtain ⟨d, hd, hR⟩ := h dx dy a a2
    have E2 := f.env (f.env E c) c2
    exact hd H2 x y Q E2.bd (e.ex (c2.msk hp)) e2 fun v H3 e3 hv => q v H3 d u2 hR (by rw [← Nat.add_assoc]; exact b2) ((c.trans c2).grow e3) hv
theorem ds_call {pre : List D → D → Prop} {E0 : XK} {RR : List D → Prop} (f : Pf i p Γf) (h : DAS K B p tr Γf n RR) (hp : ∀ ds, RR ds → ∃ d, pre ds d ∧ R d) : DS K B p (tCall (spD K pre) [] E0 tr) Γf n R := fun k u hk hu H0 σ H E Q q =>
  h k u hk hu H0 σ H E _ fun vs H1 ds u1 a b c e => by
    obtain ⟨d, hd, hR⟩ := hp ds a
    exact ⟨B, ds, d, (f.env E c).bd, by rw [List.append_nil]; exact e, hd, fun v H' e2 hv => q v H' d u1 hR b (c.grow e2) hv⟩
theorem ds_lst {RR : List D → Prop} (f : Pf i p Γf) (h : DAS K B p tr Γf n RR) (hl : ∀ ds, RR ds → ds.length ≤ 1000) : DS K B p (tLst tr) Γf n (fun d => ∃ ds, d = .list ds ∧ RR ds) := fun k u hk hu H0 σ H E Q q =>
  h k u hk hu H0 σ H E _ fun vs H1 ds u1 a b c e => ⟨by rw [e.len]; exact big1000 (hl ds a), fun l hl => by
    have hn := (f.env E c).nin hl
    exact q _ _ (.list ds) u1 ⟨ds, rfl, a⟩ b (c.grow (same_new hl)) (.lst (.inl (.inl (by rw [msk_out hn]; exact upd_same))) (e.ex (msk_ex (same_new hl))))⟩
theorem ds_tup {RR : List D → Prop} (f : Pf i p Γf) (h : DAS K B p tr Γf n RR) (hl : ∀ ds, RR ds → ds.length ≤ 1000) : DS K B p (tTup tr) Γf n (fun d => ∃ ds, d = .tuple ds ∧ RR ds) := fun k u hk hu H0 σ H E Q q =>
  h k u hk hu H0 σ H E _ fun vs H1 ds u1 a b c e => ⟨by rw [e.len]; exact big1000 (hl ds a), fun l hl => by
    have hn := (f.env E c).nin hl
    exact q _ _ (.tuple ds) u1 ⟨ds, rfl, a⟩ b (c.grow (same_new hl)) (.tup (.inl (.inl (by rw [msk_out hn]; exact upd_same))) (e.ex (msk_ex (same_new hl))))⟩
/-- a promise of one that draws -/
def spP (K : PySem.W.Frag) (pre : List D → Nat → (D → Prop) → Prop) : Sp := fun vs H Q _ => ∃ (B : List Addr) (p : Addr) (us : List V) (u : Pu) (k n : Nat) (ds : List D) (R : D → Prop), vs = .ref p :: us ∧ p ∈ B ∧ Bnd B H ∧ H p = some (.lst u.vs) ∧ DpAll K (msk B H) us ds ∧ PuOk k u ∧ k + n ≤ 100000 ∧ pre ds n R ∧
  ∀ v H' d u', R d → PuOk (k + n) u' → Chg p u' H H' → Dp K (msk B H') v d → Q v H'
theorem ds_draw {pre : List D → Nat → (D → Prop) → Prop} {E0 : XK} {RR : List D → Prop} (f : Pf i p Γf) (h : DAS K B p tr Γf n1 RR) (hp : ∀ ds, RR ds → pre ds n2 R) : DS K B p (tCall (spP K pre) [] E0 (tCons (tVar i) tr)) Γf (n1 + n2) R := fun k u hk hu H0 σ H E Q q => by
  obtain ⟨z1, z2, _⟩ := E.at_ i _ (f.at_ u)
  refine ⟨_, z1, h k u (by omega) hu H0 σ H E _ fun vs H1 ds u1 a b c e => ?_⟩
  exact ⟨B, p, vs, u1, k + n1, n2, ds, R, by rw [List.append_nil], z2, (f.env E c).bd, c.at_, e, b, by omega, hp ds a, fun v H' d u' a2 b2 c2 e2 => q v H' d u' a2 (by rw [← Nat.add_assoc]; exact b2) (c.trans c2) e2⟩
variable {Dn : Ends} {t tz : TS} {g : TG}
theorem s_asgS (f : Pf i p Γf) {k : Nat} (E : Env K B H0 σ H (Γf u)) (hu : PuOk k u) {j : Nat} (h : DS K B p te Γf n R) (hk : k + n ≤ 100000) (q : ∀ d u' σ' H', R d → PuOk (k + n) u' → Env K B H0 σ' H' ((Γf u').set j (.dat d)) → Dn.nx σ' H') : tAsg te (gName j) Dn σ H :=
  h k u hk hu H0 σ H E _ fun v H1 d u1 a b c e => q d u1 _ _ a b ((f.env E c).setD j e)
theorem q_asgS (f : Pf i p Γf) {k : Nat} (E : Env K B H0 σ H (Γf u)) (hu : PuOk k u) {j : Nat} (h : DS K B p te Γf n R) (hk : k + n ≤ 100000) (q : ∀ d u' σ' H', R d → PuOk (k + n) u' → Env K B H0 σ' H' ((Γf u').set j (.dat d)) → tz Dn σ' H') : tSeq (tAsg te (gName j)) tz Dn σ H := s_asgS (Dn := { Dn with nx := tz Dn }) f E hu h hk q
theorem s_retS (f : Pf i p Γf) {k : Nat} (E : Env K B H0 σ H (Γf u)) (hu : PuOk k u) (h : DS K B p te Γf n R) (hk : k + n ≤ 100000) (q : ∀ v d u' H', R d → PuOk (k + n) u' → Env K B H0 σ H' (Γf u') → Dp K (msk B H') v d → Dn.rt v H') : tRet te Dn σ H :=
  h k u hk hu H0 σ H E _ fun v H1 d u1 a b c e => q v d u1 _ a b (f.env E c) e
/-- a, b = e: two names for the items of a list -/
theorem s_unlS (f : Pf i p Γf) {k : Nat} {vs : List Nat} (E : Env K B H0 σ H (Γf u)) (hu : PuOk k u) (h : DS K B p te Γf n R) (hk : k + n ≤ 100000) (q : ∀ d u', R d → PuOk (k + n) u' → ∃ Γ', DG K B g d (Γf u') Γ' vs ∧ ∀ σ' H', Env K B H0 σ' H' Γ' → Dn.nx σ' H') : tAsg te g Dn σ H :=
  h k u hk hu H0 σ H E _ fun v H1 d u1 a b c e => by
    obtain ⟨Γ', hg, qq⟩ := q d u1 a b
    exact hg H0 σ H1 v (f.env E c) e _ fun σ' E' _ => qq _ _ E'
theorem q_unlS (f : Pf i p Γf) {k : Nat} {vs : List Nat} (E : Env K B H0 σ H (Γf u)) (hu : PuOk k u) (h : DS K B p te Γf n R) (hk : k + n ≤ 100000) (q : ∀ d u', R d → PuOk (k + n) u' → ∃ Γ', DG K B g d (Γf u') Γ' vs ∧ ∀ σ' H', Env K B H0 σ' H' Γ' → tz Dn σ' H') : tSeq (tAsg te g) tz Dn σ H := s_unlS (Dn := { Dn with nx := tz Dn }) f E hu h hk q
theorem s_par3S (f : Pf i p Γf) {k : Nat} (E : Env K B H0 σ H (Γf u)) (hu : PuOk k u) {j1 j2 j3 : Nat} {RR : List D → Prop} (h : DAS K B p tr Γf n RR) (hk : k + n ≤ 100000) (hl : ∀ ds, RR ds → ∃ a b c, ds = [a, b, c])
    (q : ∀ a b c u' σ' H', RR [a, b, c] → PuOk (k + n) u' → Env K B H0 σ' H' ((((Γf u').set j1 (.dat a)).set j2 (.dat b)).set j3 (.dat c)) → Dn.nx σ' H') : tPar3 j1 j2 j3 tr Dn σ H :=
  h k u hk hu H0 σ H E _ fun vs H1 ds u1 a b c e => by
    obtain ⟨d1, d2, d3, rfl⟩ := hl ds a
    cases e with
    | cons x e => cases e with
      | cons y e => cases e with
        | cons z e =>
          cases e
          exact ⟨_, _, _, rfl, q d1 d2 d3 u1 _ _ a b ((((f.env E c).setD j1 x).setD j2 y).setD j3 z)⟩
theorem q_par3S (f : Pf i p Γf) {k : Nat} (E : Env K B H0 σ H (Γf u)) (hu : PuOk k u) {j1 j2 j3 : Nat} {RR : List D → Prop} (h : DAS K B p tr Γf n RR) (hk : k + n ≤ 100000) (hl : ∀ ds, RR ds → ∃ a b c, ds = [a, b, c])
    (q : ∀ a b c u' σ' H', RR [a, b, c] → PuOk (k + n) u' → Env K B H0 σ' H' ((((Γf u').set j1 (.dat a)).set j2 (.dat b)).set j3 (.dat c)) → tz Dn σ' H') : tSeq (tPar3 j1 j2 j3 tr) tz Dn σ H := s_par3S (Dn := { Dn with nx := tz Dn }) f E hu h hk hl q
/-- a loop over a range whose end is drawn -/
theorem q_forS (f : Pf i p Γf) {k : Nat} (E : Env K B H0 σ H (Γf u)) (hu : PuOk k u) (h : DS K B p te Γf n R) (hk : k + n ≤ 100000) (hR : ∀ d, R d → ∃ m : Nat, d = .int m ∧ m ≤ 1000)
    (q : ∀ (m : Nat) u' H', R (.int m) → PuOk (k + n) u' → Env K B H0 σ H' (Γf u') → tSeq (tFor (fun _ H R => R (Itr 0 m) H) g t) tz Dn σ H') : tSeq (tFor (iRng1 (tCons te tNil)) g t) tz Dn σ H :=
  h k u hk hu H0 σ H E _ fun v H1 d u1 a b c e => by
    obtain ⟨m, rfl, hm⟩ := hR d a
    exact ⟨m, by rw [e.int_inv], by omega, by omega, q m u1 H1 a b (f.env E c)⟩
theorem di_it {m : Nat} : DI K B (fun _ H R => R (Itr 0 m) H) Γ (rgD 0 m) := fun H0 σ H E R q => q _ H (Same.refl H) jok_rng
/-- what no data names is changed, and it stood nowhere ahead -/
theorem Env.pokeN {x : Addr} {o : HO} (E : Env K B H0 σ H Γ) (hx : x ∈ B) (h0 : H0 x = none) (hn : ∀ (i : Nat) ds, Γ[i]? ≠ some (.own x ds)) : Env K B H0 σ (upd H x o) Γ := by
  have F := E.poke (o := o) hx hn
  exact ⟨F.len, F.at_, fun a u q => F.ex a u (by rw [msk1_ne (ne_of_none q h0)]; exact q), F.bnd, E.new, F.inj⟩
/-- a comprehension whose items are drawn -/
theorem ds_lc {α : Type} {wi : TI} {vs : List Nat} {xs : List α} {enc : α → D} (f : Pf i p Γf) (Γd : α → Pu → List Sl) (hi : i ∉ vs) (hw : ∀ u, DI K B wi (Γf u) (xs.map enc)) (hl : xs.length ≤ 100)
    (ht : ∀ l x, x ∈ xs → (∀ u, DG K (l :: B) g (enc x) (wipeG (Γf u) vs) (Γd x u) vs) ∧ DS K (l :: B) p te (Γd x) n R) :
    DS K B p (tLc wi g tYes te vs) Γf (xs.length * n) (fun d => ∃ ds, d = .list ds ∧ ds.length = xs.length ∧ ∀ e ∈ ds, R e) := fun k u hk hu H0 σ H E Q q => hw u H0 σ H E _ fun J H1 e1 jk => by
  intro Dl hD
  have E1 := E.grow e1
  have hp : p ∈ B := (E.at_ i _ (f.at_ u)).2.1
  have nB := E1.nin hD
  have nP : Dl ≠ p := fun e => nB (e ▸ hp)
  have n0 : H0 Dl = none := E1.ex.free hD
  let Pv : Nat → Hp → Prop := fun j H' => ∃ u' ws ds, PuOk (k + j * n) u' ∧ Env K (Dl :: B) H0 σ H' (Γf u') ∧ Chg p u' H H' ∧ Same (msk B H1) (msk (Dl :: B) H') ∧ H' Dl = some (.lst ws) ∧ DpAll K (msk (Dl :: B) H') ws ds ∧ ds.length = j ∧ ∀ e ∈ ds, R e
  have h0 : Pv 0 (upd H1 Dl (.lst [])) := by
    obtain ⟨E2, em⟩ := E1.add hD (same_new (o := HO.lst []) hD) ⟨_, upd_same⟩
    exact ⟨u, [], [], by rw [Nat.zero_mul]; exact hu, E2, (E.chg0 (f.at_ u) e1).grow (same_new hD), em, upd_same, .nil, rfl, by simp⟩
  refine ⟨fun j m H' => m = xs.length - j ∧ j ≤ xs.length ∧ Pv j H', ⟨xs.length, by simp, Nat.zero_le _, h0⟩, ?_⟩
  rintro j m H2 ⟨rfl, hj, u2, ws, ds, hu2, E2, c2, em, hws, hda, hdl, hR⟩
  have jgo := jk.go (Dl :: B) H2 em E2.bd
  have jstop := jk.stop (Dl :: B) H2 em E2.bd
  rw [List.length_map] at jstop
  by_cases hlt : j < xs.length
  · have hx : xs[j]? = some xs[j] := List.getElem?_eq_getElem hlt
    obtain ⟨hgo, hyl⟩ := jgo j (enc xs[j]) (by rw [List.getElem?_map, hx]; rfl)
    obtain ⟨g1, g2⟩ := ht Dl xs[j] (List.getElem_mem hlt)
    refine .inr ⟨hgo, Pv (j + 1), fun H' p' => ⟨xs.length - (j + 1), by omega, rfl, hlt, p'⟩, fun x H3 y => ?_⟩
    obtain ⟨e3, hx3⟩ := hyl x H3 y
    refine g1 u2 H0 _ H3 x ((E2.grow e3).wiped vs) hx3 _ fun σ' E4 hw4 => ⟨by rw [hw4, wipe_wipe vs vs fun _ z => z], ?_⟩
    have hjn : (j + 1) * n ≤ xs.length * n := Nat.mul_le_mul_right n hlt
    rw [Nat.add_mul, Nat.one_mul] at hjn
    refine g2 (k + j * n) u2 (by omega) hu2 H0 σ' H3 E4 _ fun v H4 d u3 a b c e => ?_
    have hs4 : H4 Dl = some (.lst ws) := c.get nP (e3 _ _ hws)
    have hpD : p ∈ Dl :: B := List.mem_cons_of_mem _ hp
    have em4 : Same (msk (Dl :: B) H2) (msk (Dl :: B) H4) := (msk_ex e3).trans (c.msk hpD)
    refine ⟨ws, hs4, by rw [hda.len, hdl]; exact Nat.lt_of_lt_of_le hlt (Nat.le_trans hl (by decide)), ?_⟩
    have E5 := f.env (E2.grow e3) c
    refine ⟨u3, ws ++ [v], ds ++ [d], ?_, E5.pokeN List.mem_cons_self n0 fun m es hm => ?_, ?_, ?_, upd_same, ?_, by rw [List.length_append, hdl]; rfl, fun e he => ?_⟩
    · rw [Nat.add_mul, Nat.one_mul, ← Nat.add_assoc]; exact b
    · rw [← f.set u u3] at hm
      rcases set_get hm with ⟨_, e5, _⟩ | ⟨_, e5⟩
      · injection e5 with e6; exact nP e6
      · exact nB (E1.at_ m _ e5).2.1
    · have c4 := (c2.grow e3).trans c
      refine ⟨fun a o qa => ?_, by rw [upd_ne (Ne.symm nP)]; exact c4.at_⟩
      rw [upd_ne (ne_of_none (msk_some qa).2 (e1.free hD))]
      exact c4.same a o qa
    · rw [msk_upd List.mem_cons_self]
      exact em.trans em4
    · rw [msk_upd List.mem_cons_self]
      exact (hda.ex em4).app (.cons e .nil)
    · rcases List.mem_append.mp he with z | z
      · exact hR e z
      · rw [List.mem_singleton.mp z]; exact a
  · have ei : j = xs.length := by omega
    subst ei
    exact .inl ⟨jstop, q (.ref Dl) H2 (.list ds) u2 ⟨ds, rfl, hdl, hR⟩ hu2 c2 (.lst (.inl (.inl (by rw [msk_out nB]; exact hws))) (hda.ex (msk_sub fun b hb => List.mem_cons_of_mem _ hb)))⟩
end
end WS
/-! What the law draws: matrices whose fewest lifts are known. -/
namespace WS
/-! ### lifts of weight three and more, each the other row's turn -/
def Fw : List Int → Int → Int → Int
  | [], _, q => q
  | w :: ws, p, q => Fw ws q (w * q + p)
def Gw : List Int → Int → Int → Int
  | [], p, _ => p
  | w :: ws, p, q => Gw ws q (w * q + p)
theorem Fw_snoc : ∀ (ws : List Int) (w p q : Int), Fw (ws ++ [w]) p q = w * Fw ws p q + Gw ws p q
  | [], _, _, _ => rfl
  | v :: ws, w, p, q => Fw_snoc ws w q (v * q + p)
theorem Gw_snoc : ∀ (ws : List Int) (w p q : Int), Gw (ws ++ [w]) p q = Fw ws p q
  | [], _, _, _ => rfl
  | v :: ws, w, p, q => Gw_snoc ws w q (v * q + p)
theorem Fw_lin : ∀ (ws : List Int) (p q : Int), Fw ws p q = Fw ws 0 1 * q + Fw ws 1 0 * p
  | [], p, q => by show q = 1 * q + 0 * p; grind
  | w :: ws, p, q => by
    show Fw ws q (w * q + p) = Fw ws 1 (w * 1 + 0) * q + Fw ws 0 (w * 0 + 1) * p
    rw [Fw_lin ws q (w * q + p), Fw_lin ws 1 (w * 1 + 0), Fw_lin ws 0 (w * 0 + 1)]
    grind
theorem Fw_front (w : Int) (ws : List Int) : Fw (w :: ws) 0 1 = w * Fw ws 0 1 + Fw ws 1 0 ∧ Fw (w :: ws) 1 0 = Fw ws 0 1 := by
  constructor
  · show Fw ws 1 (w * 1 + 0) = _
    rw [Fw_lin ws 1 (w * 1 + 0)]; grind
  · show Fw ws 0 (w * 0 + 1) = _
    rw [Fw_lin ws 0 (w * 0 + 1)]; grind
theorem Fw_dom : ∀ (ws : List Int), (∀ w ∈ ws, 3 ≤ w.natAbs) → 2 * (Fw ws 1 0).natAbs < (Fw ws 0 1).natAbs
  | [], _ => by decide
  | w :: ws, h => by
    have ih := Fw_dom ws fun v hv => h v (List.mem_cons_of_mem _ hv)
    obtain ⟨e1, e2⟩ := Fw_front w ws
    rw [e1, e2]
    have hw := h w List.mem_cons_self
    generalize Fw ws 0 1 = x at *
    generalize Fw ws 1 0 = y at *
    have h1 : (w * x).natAbs = w.natAbs * x.natAbs := Int.natAbs_mul w x
    have h2 : 3 * x.natAbs ≤ w.natAbs * x.natAbs := Nat.mul_le_mul_right _ hw
    rw [← h1] at h2
    generalize w * x = z at *
    omega
theorem Fw_LI : ∀ (ws : List Int), (∀ w ∈ ws, 3 ≤ w.natAbs) → LI (Fw ws 0 1) (Fw ws 1 0) = ws.length
  | [], _ => rfl
  | w :: ws, h => by
    have h' : ∀ v ∈ ws, 3 ≤ v.natAbs := fun v hv => h v (List.mem_cons_of_mem _ hv)
    have ih := Fw_LI ws h'
    have dm := Fw_dom ws h'
    obtain ⟨e1, e2⟩ := Fw_front w ws
    rw [e1, e2, LI_near (q := w) (t := Fw ws 1 0) rfl (by omega) (by omega), ih, List.length_cons]; omega
theorem LI_back {x y : Int} (h : 2 * y.natAbs < x.natAbs) : LI y x = 1 + LI x y := LI_near (q := 0) (t := y) (by omega) (by omega) (by omega)
/-- newer row, older row: their fewest lifts -/
theorem steep_m4 (ws : List Int) (w : Int) (h : ∀ v ∈ ws ++ [w], 3 ≤ v.natAbs) :
    LI (Fw (ws ++ [w]) 0 1) (Fw (ws ++ [w]) 1 0) = ws.length + 1 ∧ LI (Fw (ws ++ [w]) 1 0) (Fw (ws ++ [w]) 0 1) = ws.length + 2 ∧ LI (Gw (ws ++ [w]) 0 1) (Gw (ws ++ [w]) 1 0) = ws.length ∧ LI (Gw (ws ++ [w]) 1 0) (Gw (ws ++ [w]) 0 1) = ws.length + 1 ∧ Fw (ws ++ [w]) 0 1 ≠ 0 ∧ Fw (ws ++ [w]) 1 0 ≠ 0 := by
  have h' : ∀ v ∈ ws, 3 ≤ v.natAbs := fun v hv => h v (List.mem_append_left _ hv)
  have a := Fw_LI _ h
  rw [List.length_append] at a
  have b := Fw_LI _ h'
  have da := Fw_dom _ h
  have db := Fw_dom _ h'
  rw [Gw_snoc, Gw_snoc]
  refine ⟨a, by rw [LI_back da, a]; show 1 + (ws.length + 1) = _; omega, b, by rw [LI_back db, b]; omega, by omega, fun e => ?_⟩
  rw [e] at a
  have : LI (Fw (ws ++ [w]) 0 1) 0 = 0 := LI_zero _
  rw [this] at a
  simp at a
/-- the state of the loop: to is the row to be lifted next -/
structure SteepAt (t0 to : Bool) (ws : List Int) (M : Mx) : Prop where
  w3 : ∀ w ∈ ws, 3 ≤ w.natAbs
  uni : M.det = 1
  sz : SzM (9 * ws.length + 1) M
  rows : ∃ px py qx qy : Int, ((px = 0 ∧ py = 1 ∧ qx = 1 ∧ qy = 0) ∨ (px = 1 ∧ py = 0 ∧ qx = 0 ∧ qy = 1)) ∧
    ((to = true ∧ M.c = Gw ws px qx ∧ M.d = Gw ws py qy ∧ M.a = Fw ws px qx ∧ M.b = Fw ws py qy) ∨ (to = false ∧ M.a = Gw ws px qx ∧ M.b = Gw ws py qy ∧ M.c = Fw ws px qx ∧ M.d = Fw ws py qy))
theorem steep_start (t0 : Bool) : SteepAt t0 t0 [] Mx.one := by
  have z1 : Sz 1 1 := ⟨by decide⟩
  have z0 : Sz 1 0 := ⟨by decide⟩
  refine ⟨by simp, by decide, ⟨z1, z0, z0, z1⟩, ?_⟩
  cases t0
  · exact ⟨1, 0, 0, 1, .inr ⟨rfl, rfl, rfl, rfl⟩, .inr ⟨rfl, rfl, rfl, rfl, rfl⟩⟩
  · exact ⟨0, 1, 1, 0, .inl ⟨rfl, rfl, rfl, rfl⟩, .inl ⟨rfl, rfl, rfl, rfl, rfl⟩⟩
theorem steep_next {t0 to : Bool} {ws : List Int} {M : Mx} (h : SteepAt t0 to ws M) {w : Int} (hw : 3 ≤ w.natAbs) (zw : Sz 8 w) : SteepAt t0 (!to) (ws ++ [w]) ((Stp.lf to w).run M) := by
  obtain ⟨px, py, qx, qy, hp, hr⟩ := h.rows
  have zz : ∀ {x y : Int}, Sz (9 * ws.length + 1) x → Sz (9 * ws.length + 1) y → Sz (9 * (ws ++ [w]).length + 1) (x + w * y) := fun {x y} hx hy => by
    rw [List.length_append, List.length_singleton]
    have a := zw.mul hy
    have b := (hx.mono (m := 8 + (9 * ws.length + 1)) (by omega)).add a
    exact b.mono (by omega)
  have z1 : ∀ {x : Int}, Sz (9 * ws.length + 1) x → Sz (9 * (ws ++ [w]).length + 1) x := fun hx => hx.mono (by rw [List.length_append]; omega)
  refine ⟨fun v hv => ?_, ?_, ?_, px, py, qx, qy, hp, ?_⟩
  · rcases List.mem_append.mp hv with k | k
    · exact h.w3 v k
    · rw [List.mem_singleton.mp k]; exact hw
  · cases to
    · exact (det_lift0 w M).trans h.uni
    · exact (det_lift1 w M).trans h.uni
  · cases to
    · exact ⟨zz h.sz.a h.sz.c, zz h.sz.b h.sz.d, z1 h.sz.c, z1 h.sz.d⟩
    · exact ⟨z1 h.sz.a, z1 h.sz.b, zz h.sz.c h.sz.a, zz h.sz.d h.sz.b⟩
  · rw [Fw_snoc, Fw_snoc, Gw_snoc, Gw_snoc]
    rcases hr with ⟨rfl, a, b, c, d⟩ | ⟨rfl, a, b, c, d⟩
    · refine .inr ⟨rfl, c, d, ?_, ?_⟩
      · show M.c + w * M.a = _
        rw [a, c]; grind
      · show M.d + w * M.b = _
        rw [b, d]; grind
    · refine .inl ⟨rfl, c, d, ?_, ?_⟩
      · show M.a + w * M.c = _
        rw [a, c]; grind
      · show M.b + w * M.d = _
        rw [b, d]; grind
theorem steep_fw {t0 to : Bool} {ws : List Int} {M : Mx} (h : SteepAt t0 to ws M) : fw M = ws.length := by
  obtain ⟨px, py, qx, qy, hp, hr⟩ := h.rows
  rcases List.eq_nil_or_concat ws with e | ⟨us, w, e⟩
  · subst e
    have : unit M = true := by
      rw [unit_iff]
      rcases hp with ⟨rfl, rfl, rfl, rfl⟩ | ⟨rfl, rfl, rfl, rfl⟩ <;> rcases hr with ⟨_, a, b, c, d⟩ | ⟨_, a, b, c, d⟩
      · exact .inl ⟨d, a⟩
      · exact .inr ⟨a, d⟩
      · exact .inr ⟨c, b⟩
      · exact .inl ⟨b, c⟩
    unfold fw
    rw [if_pos this]; rfl
  · rw [List.concat_eq_append] at e
    subst e
    obtain ⟨l1, l2, l3, l4, n1, n2⟩ := steep_m4 us w h.w3
    have nu : ¬ unit M = true := by
      rw [unit_iff]
      rcases hp with ⟨rfl, rfl, rfl, rfl⟩ | ⟨rfl, rfl, rfl, rfl⟩ <;> rcases hr with ⟨_, a, b, c, d⟩ | ⟨_, a, b, c, d⟩
      all_goals
        intro z
        rcases z with ⟨z1, z2⟩ | ⟨z1, z2⟩
        all_goals first | exact n1 (c.symm.trans z1) | exact n1 (c.symm.trans z2) | exact n2 (d.symm.trans z1) | exact n2 (d.symm.trans z2) | exact n1 (d.symm.trans z1) | exact n1 (d.symm.trans z2) | exact n2 (c.symm.trans z1) | exact n2 (c.symm.trans z2)
    unfold fw
    rw [if_neg nu, List.length_append, List.length_singleton]
    rcases hp with ⟨rfl, rfl, rfl, rfl⟩ | ⟨rfl, rfl, rfl, rfl⟩ <;> rcases hr with ⟨_, a, b, c, d⟩ | ⟨_, a, b, c, d⟩ <;> rw [a, b, c, d, l1, l2, l3, l4] <;> unfold m4 <;> omega
/-! ### signs and the order of rows -/
def signM (s0 s1 : Int) (M : Mx) : Mx := ⟨M.a * s0, M.b * s0, M.c * s1, M.d * s1⟩
def bentM (s0 s1 : Int) (b : Bool) (M : Mx) : Mx := if b = true then (signM s0 s1 M).swap else signM s0 s1 M
theorem signM_cases {s0 s1 : Int} (h0 : s0 = 1 ∨ s0 = -1) (h1 : s1 = 1 ∨ s1 = -1) (M : Mx) : signM s0 s1 M = M ∨ signM s0 s1 M = M.turn0 ∨ signM s0 s1 M = M.turn1 ∨ signM s0 s1 M = M.turn0.turn1 := by
  rcases h0 with rfl | rfl <;> rcases h1 with rfl | rfl
  · exact .inl (mx_ext (Int.mul_one _) (Int.mul_one _) (Int.mul_one _) (Int.mul_one _))
  · refine .inr (.inr (.inl ?_))
    unfold signM Mx.turn1
    simp
  · refine .inr (.inl ?_)
    unfold signM Mx.turn0
    simp
  · refine .inr (.inr (.inr ?_))
    unfold signM Mx.turn0 Mx.turn1
    simp
theorem bent_fw {s0 s1 : Int} (h0 : s0 = 1 ∨ s0 = -1) (h1 : s1 = 1 ∨ s1 = -1) (b : Bool) (M : Mx) : fw (bentM s0 s1 b M) = fw M := by
  have h : fw (signM s0 s1 M) = fw M := by
    rcases signM_cases h0 h1 M with e | e | e | e <;> rw [e]
    · exact fw_turn0 M
    · exact fw_turn1 M
    · rw [fw_turn1, fw_turn0]
  unfold bentM
  split
  · rw [fw_swap, h]
  · exact h
theorem bent_uni {s0 s1 : Int} (h0 : s0 = 1 ∨ s0 = -1) (h1 : s1 = 1 ∨ s1 = -1) (b : Bool) {M : Mx} (hu : M.det = 1) : Uni (bentM s0 s1 b M) := by
  have h : (signM s0 s1 M).det = 1 ∨ (signM s0 s1 M).det = -1 := by
    rcases signM_cases h0 h1 M with e | e | e | e <;> rw [e]
    · exact .inl hu
    · rw [det_turn0, hu]; exact .inr rfl
    · rw [det_turn1, hu]; exact .inr rfl
    · rw [det_turn1, det_turn0, hu]; exact .inl rfl
  unfold bentM
  split
  · unfold Uni
    rw [det_swap]; omega
  · exact h
theorem natAbs_sign {s : Int} (h : s = 1 ∨ s = -1) (x : Int) : (x * s).natAbs = x.natAbs := by
  rcases h with rfl | rfl
  · rw [Int.mul_one]
  · rw [Int.mul_neg, Int.mul_one, Int.natAbs_neg]
structure LeM (n : Nat) (M : Mx) : Prop where
  a : M.a.natAbs ≤ n
  b : M.b.natAbs ≤ n
  c : M.c.natAbs ≤ n
  d : M.d.natAbs ≤ n
theorem bent_le {n : Nat} {s0 s1 : Int} (h0 : s0 = 1 ∨ s0 = -1) (h1 : s1 = 1 ∨ s1 = -1) (b : Bool) {M : Mx} (h : LeM n M) : LeM n (bentM s0 s1 b M) := by
  unfold bentM
  split
  · exact ⟨by show (M.c * s1).natAbs ≤ n; rw [natAbs_sign h1]; exact h.c, by show (M.d * s1).natAbs ≤ n; rw [natAbs_sign h1]; exact h.d, by show (M.a * s0).natAbs ≤ n; rw [natAbs_sign h0]; exact h.a, by show (M.b * s0).natAbs ≤ n; rw [natAbs_sign h0]; exact h.b⟩
  · exact ⟨by show (M.a * s0).natAbs ≤ n; rw [natAbs_sign h0]; exact h.a, by show (M.b * s0).natAbs ≤ n; rw [natAbs_sign h0]; exact h.b, by show (M.c * s1).natAbs ≤ n; rw [natAbs_sign h1]; exact h.c, by show (M.d * s1).natAbs ≤ n; rw [natAbs_sign h1]; exact h.d⟩
theorem bent_sz {n : Nat} {s0 s1 : Int} (h0 : s0 = 1 ∨ s0 = -1) (h1 : s1 = 1 ∨ s1 = -1) (b : Bool) {M : Mx} (h : SzM n M) : SzM n (bentM s0 s1 b M) := by
  have e : ∀ {s x : Int}, s = 1 ∨ s = -1 → Sz n x → Sz n (x * s) := fun hs hx => ⟨by rw [natAbs_sign hs]; exact hx.lt⟩
  unfold bentM
  split
  · exact ⟨e h1 h.c, e h1 h.d, e h0 h.a, e h0 h.b⟩
  · exact ⟨e h0 h.a, e h0 h.b, e h1 h.c, e h1 h.d⟩
end WS
namespace WS
open PySem PySem.Spec PyProof.Rows L2
local macro_rules | `(tactic| walk_at "num") => `(tactic| first | assumption | exact mulW (by assumption) (by assumption) (by decide))
local macro_rules | `(tactic| walk_at "de") => `(tactic| first
  | exact de_int | exact de_str | exact de_bl | exact de_non | exact de_var rfl | exact da_nil | exact do_none | assumption
  | ((with_reducible apply da_cons) <;> walk_at "de")
  | ((with_reducible apply de_tup) <;> first | walk_at "de" | (simp; done))
  | ((with_reducible apply de_op) <;> walk_at "de")
  | ((with_reducible show DE _ _ (tCB (rIsi _) (tCons _ (tCons (tC (.ty "int")) tNil))) _ _); apply isi_int; walk_at "de")
  | ((with_reducible show DE _ _ (tCB (rIsi _) (tCons _ (tCons (tC (.ty "bool")) tNil))) _ _); apply isi_bool; walk_at "de")
  | ((with_reducible show DE _ _ (tCB (rIsi _) (tCons _ (tCons (tC (.ty "list")) tNil))) _ _); apply isi_list; walk_at "de")
  | ((with_reducible show DE _ _ (tCB (rIsi _) (tCons _ (tCons (tC (.ty "tuple")) tNil))) _ _); apply isi_tup; walk_at "de")
  | ((with_reducible apply de_cb) <;> walk_at "de")
  | ((with_reducible apply de_neg) <;> walk_at "de")
  | ((with_reducible apply dt_test) <;> walk_at "de")
  | ((with_reducible apply dt_B) <;> walk_at "de")
  | ((with_reducible apply dt_not) <;> walk_at "de")
  | ((with_reducible apply de_notV) <;> walk_at "de")
  | ((with_reducible apply do_some) <;> walk_at "de")
  | exact ca_lenL | exact ca_lenT | exact ca_abs | exact ca_intI | exact ca_intB | exact ca_min2
  | exact od_i0 | exact od_b0
  | exact od_ixL rfl | exact od_ixT rfl
  | exact od_ixP0 (by assumption) | exact od_ixP1 (by assumption)
  | (refine od_i ?_; walk_at "num"))

section
variable {K : PySem.W.Frag} {B : List Addr} {H0 H H' : Hp} {σ : L2.St} {Γ : List Sl} {te ta tb tc : TE} {p : Addr} {u u' : Pu} {i n : Nat} {Γf : Pu → List Sl} {R : D → Prop} {d1 d2 : D} {ds es : List D}
theorem Env.under (E : Env K B H0 σ H Γ) {H0' : Hp} (h : Same H0' H0) : Env K B H0' σ H Γ := ⟨E.len, E.at_, h.trans E.ex, E.bnd, fun i l ds q => h.free (E.new i l ds q), E.inj⟩
theorem fin_chg (E : Env K B (msk [p] H) σ H' Γ) (hi : Γ[i]? = some (.own p u.ds)) : Chg p u H H' := by
  obtain ⟨z1, z2, vs, z3, z4⟩ := E.at_ i _ hi
  rw [vs_of z4] at z3
  exact ⟨E.ex, z3⟩
theorem env_startP {N : List Str} {us : List V} (hp : p ∈ B) (hb : Bnd B H) (ha : H p = some (.lst u.vs)) (h : DpAll K (msk B H) us ds) (hn : N.length - (us.length + 1) = n) : Env K B (msk [p] H) (start N (.ref p :: us)) H (.own p u.ds :: (ds.map Sl.dat ++ List.replicate n .emp)) := by
  have E := env_start (K := K) (N := N) (vs := .non :: us) (ds := .none :: ds) hb (.cons .non h) hn
  have E1 := E.under (H0' := msk [p] H) msk_le
  refine E1.setO 0 (l := p) (vs := u.vs) (ds := u.ds) hp (msk_in (by simp)) (fun j es hq => ?_) ha (vs_ds u)
  exfalso
  have := List.mem_of_getElem? hq
  rcases List.mem_append.mp this with z | z
  · obtain ⟨x, _, e⟩ := List.mem_map.mp z; cases e
  · have := (List.mem_replicate.mp z).2; cases this
theorem ds_if (f : Pf i p Γf) {Rc : D → Prop} (h : DS K B p tc Γf n Rc) (hb : ∀ d, Rc d → ∃ b, d = .bool b) (h1 : ∀ u, DE K B ta (Γf u) d1) (h2 : ∀ u, DE K B tb (Γf u) d2) : DS K B p (tIf (tTest tc) ta tb) Γf n (fun d => d = d1 ∨ d = d2) := fun k u hk hu H0 σ H E Q q =>
  h k u hk hu H0 σ H E _ fun v H1 d u1 a b c e => by
    obtain ⟨x, rfl⟩ := hb d a
    have E1 := f.env E c
    refine ⟨x, e.bl_inv, ?_⟩
    cases x with
    | true => exact h1 u1 H0 σ H1 E1 Q fun v H' e2 hv => q v H' d1 u1 (.inl rfl) b (c.grow e2) hv
    | false => exact h2 u1 H0 σ H1 E1 Q fun v H' e2 hv => q v H' d2 u1 (.inr rfl) b (c.grow e2) hv
/-- a promise of a new list of one's own -/
def spO (K : PySem.W.Frag) (pre : List D → List D → Prop) : Sp := fun vs H Q _ => ∃ (B : List Addr) (ds es : List D), Bnd B H ∧ DpAll K (msk B H) vs ds ∧ pre ds es ∧ ∀ l vs H', H l = none → Same H H' → H' l = some (.lst vs) → DpAll K (msk (l :: B) H') vs es → Q (.ref l) H'
theorem dl_callO {pre : List D → List D → Prop} {E0 : XK} {tr : TA} (h : DA K B tr Γ ds) (hp : pre ds es) : DL K B (tCall (spO K pre) [] E0 tr) Γ es := fun H0 σ H E Q q =>
  h H0 σ H E _ fun vs H1 e1 hv => ⟨B, ds, es, E.bd.ex e1, by rw [List.append_nil]; exact hv, hp, fun l ws H' hl e2 hw hd => q l ws H' (e1.free hl) (e1.trans e2) hw hd⟩
end
section
variable {P : Program} {w : World} {K : PySem.W.Frag} {mg : Str → Option Value} {base : Heap} {f : Addr} {fd : FuncData} {C : Addr}
theorem fn_okP {x qual p0 : Str} {st : Stmt} {f : Addr} {fd : FuncData} {N ps : List Str} {k n : Nat} {pre : List D → Nat → (D → Prop) → Prop} (F : Fun K x qual st f fd) (S : FnScope N (p0 :: ps) (defScope st)) (hn : N.length - (ps.length + 1) = n) (hl : ∀ ds m R, pre ds m R → ds.length = ps.length)
    (body : ∀ (cdv : Value) (A : Around) (outer : List PySem.Env) (s : Shared) (H : Hp) (us : List V) (Q : VK) (E : XK) (B : List Addr) (p : Addr) (u : Pu) (j m : Nat) (ds : List D) (R : D → Prop), Room k (A.deeper (envOfC qual (defScope st) s.heap.objs.size f cdv)) → pre ds m R → PuOk j u → j + m ≤ 100000 →
      Env K B (msk [p] H) (L2.start N (.ref p :: us)) H (.own p u.ds :: (ds.map Sl.dat ++ List.replicate n .emp)) → (∀ v H' d u', R d → PuOk (j + m) u' → Chg p u' H H' → Dp K (msk B H') v d → Q v H') →
      ∃ t, PSs (cxOf CX0 P w K mg base N qual (defScope st) f cdv A outer s H E).nox (defBody st) t ∧ t { nx := fun _ H' => Q .non H', rt := Q } (L2.start N (.ref p :: us)) H) : FnOk P w K mg base CX0 (k + 1) f fd (p0 :: ps) (spP K pre) := by
  refine F.ok S (fun vs H Q E h => ?_) (fun cdv A outer s H vs Q E hr h => ?_)
  · obtain ⟨B, p, us, u, j, m, ds, R, rfl, _, _, _, hd, _, _, hp, _⟩ := h
    rw [List.length_cons, hd.len, hl ds m R hp, List.length_cons]
  · obtain ⟨B, p, us, u, j, m, ds, R, rfl, hpB, hb, ha, hd, hu, hk, hp, q⟩ := h
    exact body cdv A outer s H us Q E B p u j m ds R hr hp hu hk (env_startP hpB hb ha hd (by rw [hd.len, hl ds m R hp]; exact hn)) q
abbrev s__law_draw : Stmt := topS 38
abbrev n__law_draw : List Str := ["_law_purse_here", "_law_many", "_law_digit", "_law_number"]
theorem sc__law_draw : FnScope n__law_draw ["_law_purse_here", "_law_many"] (defScope s__law_draw) := ⟨rfl, rfl, rfl, by decide +kernel, rfl, by decide +kernel, by decide +kernel⟩
def pre_draw (ds : List D) (n : Nat) (R : D → Prop) : Prop := ∃ m : Int, ds = [.int m] ∧ 1 ≤ m ∧ m ≤ 1000 ∧ n = 1 ∧ ∀ x, 0 ≤ x → x < m → R (.int x)
theorem ok__law_draw (T : Bt mg) (F : Fun K "_law_draw" "_law_draw" s__law_draw f fd) : FnOk P w K mg base CX0 1 f fd ["_law_purse_here", "_law_many"] (spP K pre_draw) := by
  refine fn_okP F sc__law_draw (n := 2) rfl (fun ds m R h => ?_) (fun cdv A outer s H us Q E B p u j m ds R hr hp hu hk E0 q => ?_)
  · obtain ⟨_, rfl, _⟩ := h; rfl
  obtain ⟨m, rfl, m1, m2, rfl, hR⟩ := hp
  refine ⟨_, (pss_cons (ps_if (pt_cmpR op_gt (pe_ix (k_ix K rfl) (pv 0) pe_int (fun _ _ => rfl)) pe_int (nomark _)) (pss_cons (ps_set (i := 2) sc__law_draw.nd rfl (by first | exact Or.inl rfl | exact Or.inr rfl) (pe_op op_mod (pe_ix (k_ix K rfl) (pv 0) pe_int (fun _ _ => rfl)) (pv 1)))
      (pss_cons (ps_asg (pe_op op_fdivW (pe_ix (k_ix K rfl) (pv 0) pe_int (fun _ _ => rfl)) (pv 1)) (pg_sub (pv 0) pe_int set_list))
      (pss_one (ps_ret (pv 2))))) pss_nil)
      (pss_cons (ps_asg (pe_op op_add (pe_ix (k_ix K rfl) (pv 0) pe_int (fun _ _ => rfl)) pe_int) (pg_sub (pv 0) pe_int set_list))
      (pss_cons (ps_set (i := 3) sc__law_draw.nd rfl (by first | exact Or.inl rfl | exact Or.inr rfl) (pe_op op_mod (pe_op op_add (pe_op op_add (pe_op op_mulW (pe_ix (k_ix K rfl) (pv 0) pe_int (fun _ _ => rfl)) pe_int) (pe_op op_mulW (pe_ix (k_ix K rfl) (pv 0) pe_int (fun _ _ => rfl)) pe_int)) pe_int) pe_int))
      (pss_cons (ps_set (i := 3) sc__law_draw.nd rfl (by first | exact Or.inl rfl | exact Or.inr rfl) (pe_op op_mod (pe_op op_add (pe_op op_mulW (pv 3) (pv 3)) (pe_ix (k_ix K rfl) (pv 0) pe_int (fun _ _ => rfl))) pe_int))
      (pss_cons (ps_set (i := 3) sc__law_draw.nd rfl (by first | exact Or.inl rfl | exact Or.inr rfl) (pe_op op_mod (pe_op op_add (pe_op op_mulW (pv 3) (pv 3)) pe_int) pe_int))
      (pss_one (ps_ret (pe_op op_mod (pe_op op_fdivW (pv 3) pe_int) (pv 1))))))))), ?_⟩
  have pos : 0 < m := by omega
  have zm : Sz 10 m := ⟨by omega⟩
  refine q_when E0 (b := decide (u.a > 0)) (dt_test (de_op (de_ixOwn (j := 0) rfl de_int rfl) de_int od_b0)) (fun _ H1 E1 => ?_) (fun _ H1 E1 => ?_)
  · refine q_asg E1 (i := 2) (d := .int (u.a % m)) (de_op (de_ixOwn (j := 0) rfl de_int rfl) (de_var rfl) (od_i pos)) fun σ2 H2 E2 => ?_
    refine q_setI E2 (i := 0) (l := p) (ds := u.ds) (j := 0) (z := 0) (d := .int (u.a / m)) rfl (de_op (de_ixOwn (j := 0) rfl de_int rfl) (de_var rfl) (od_i (divW pos zm (by decide)))) de_int rfl fun H3 E3 => ?_
    refine s_ret E3 (d := .int (u.a % m)) (de_var rfl) fun v H4 E4 hv => ?_
    refine q v H4 _ ⟨u.a / m, u.b, u.c⟩ (hR _ (Int.emod_nonneg _ (by omega)) (Int.emod_lt_of_pos _ pos)) ⟨Int.ediv_nonneg hu.a0 (by omega), hu.b0, hu.b1, hu.c0, by have := hu.c1; show u.c ≤ _; omega⟩ (fin_chg (i := 0) E4 rfl) hv
  · have zc : Sz 20 (u.c + 1) := ⟨by have := hu.c1; have := hu.c0; omega⟩
    have zb : Sz 40 u.b := ⟨by have := hu.b1; have := hu.b0; omega⟩
    have k1 : Sz 20 48271 := ⟨by decide⟩
    have k2 : Sz 30 1299709 := ⟨by decide⟩
    refine q_setI E1 (i := 0) (l := p) (ds := u.ds) (j := 2) (z := 2) (d := .int (u.c + 1)) rfl (de_op (de_ixOwn (j := 2) rfl de_int rfl) de_int od_i0) de_int rfl fun H2 E2 => ?_
    refine q_asg E2 (i := 3) (d := .int ((u.b * 48271 + (u.c + 1) * 1299709 + 907) % 2147483629)) (de_op (de_op (de_op (de_op (de_ixOwn (j := 1) rfl de_int rfl) de_int (od_i (mulW zb k1 (by decide)))) (de_op (de_ixOwn (j := 2) rfl de_int rfl) de_int (od_i (mulW zc k2 (by decide)))) od_i0) de_int od_i0) de_int (od_i (by decide))) fun σ3 H3 E3 => ?_
    generalize hx : (u.b * 48271 + (u.c + 1) * 1299709 + 907) % 2147483629 = x at E3
    have zx : Sz 40 x := ⟨by
      have a := Int.emod_nonneg (u.b * 48271 + (u.c + 1) * 1299709 + 907) (show (2147483629 : Int) ≠ 0 by decide)
      have b := Int.emod_lt_of_pos (u.b * 48271 + (u.c + 1) * 1299709 + 907) (show (0 : Int) < 2147483629 by decide)
      omega⟩
    refine q_asg E3 (i := 3) (d := .int ((x * x + (u.c + 1)) % 2147483587)) (de_op (de_op (de_op (de_var rfl) (de_var rfl) (od_i (mulW zx zx (by decide)))) (de_ixOwn (j := 2) rfl de_int rfl) od_i0) de_int (od_i (by decide))) fun σ4 H4 E4 => ?_
    generalize hy : (x * x + (u.c + 1)) % 2147483587 = y at E4
    have zy : Sz 40 y := ⟨by
      have a := Int.emod_nonneg (x * x + (u.c + 1)) (show (2147483587 : Int) ≠ 0 by decide)
      have b := Int.emod_lt_of_pos (x * x + (u.c + 1)) (show (0 : Int) < 2147483587 by decide)
      omega⟩
    refine q_asg E4 (i := 3) (d := .int ((y * y + 69621) % 2147483563)) (de_op (de_op (de_op (de_var rfl) (de_var rfl) (od_i (mulW zy zy (by decide)))) de_int od_i0) de_int (od_i (by decide))) fun σ5 H5 E5 => ?_
    generalize (y * y + 69621) % 2147483563 = z at E5
    have z64 : Sz 10 64 := ⟨by decide⟩
    refine s_ret E5 (d := .int (z / 64 % m)) (de_op (de_op (de_var rfl) de_int (od_i (divW (by decide) z64 (by decide)))) (de_var rfl) (od_i pos)) fun v H6 E6 hv => ?_
    refine q v H6 _ ⟨u.a, u.b, u.c + 1⟩ (hR _ (Int.emod_nonneg _ (by omega)) (Int.emod_lt_of_pos _ pos)) ⟨hu.a0, hu.b0, hu.b1, by have := hu.c0; show 0 ≤ u.c + 1; omega, by have := hu.c1; show u.c + 1 ≤ _; omega⟩ (fin_chg (i := 0) E6 rfl) hv
abbrev s__law_one_of : Stmt := topS 39
abbrev n__law_one_of : List Str := ["_law_purse_here", "_law_some"]
theorem sc__law_one_of : FnScope n__law_one_of ["_law_purse_here", "_law_some"] (defScope s__law_one_of) := ⟨rfl, rfl, rfl, by decide +kernel, rfl, by decide +kernel, by decide +kernel⟩
def pre_one_of (ds : List D) (n : Nat) (R : D → Prop) : Prop := ∃ es : List D, ds = [.list es] ∧ 1 ≤ es.length ∧ es.length ≤ 1000 ∧ n = 1 ∧ ∀ e ∈ es, R e
theorem ok__law_one_of (T : Bt mg) (F : Fun K "_law_one_of" "_law_one_of" s__law_one_of f fd) (F__law_draw : Fn P w K mg base "_law_draw" 1 ["_law_purse_here", "_law_many"] (spP K pre_draw)) : FnOk P w K mg base CX0 2 f fd ["_law_purse_here", "_law_some"] (spP K pre_one_of) := by
  refine fn_okP F sc__law_one_of (n := 0) rfl (fun ds m R h => ?_) (fun cdv A outer s H us Q E B p u j m ds R hr hp hu hk E0 q => ?_)
  · obtain ⟨_, rfl, _⟩ := h; rfl
  obtain ⟨es, rfl, l1, l2, rfl, hR⟩ := hp
  refine ⟨_, (pss_one (ps_ret (pe_ix (k_ix K rfl) (pv 1) (pe_fn F__law_draw (hr.mono (by decide)) (by rfl) (pa_cons (pv 0) (pa_cons (pe_callB (k_len K rfl) (by rfl) T.b_len boot_len (pa_cons (pv 1) pa_nil)) pa_nil))) (fun _ _ => rfl)))), ?_⟩
  have f : Pf 0 p (fun u => [.own p u.ds, .dat (.list es)]) := ⟨fun _ => rfl, fun _ _ => rfl⟩
  refine s_retS f (u := u) (n := 0 + (0 + 1)) (R := R) E0 hu (ds_op f (Rb := fun d => ∃ x : Int, d = .int x ∧ 0 ≤ x ∧ x < es.length) (ds_pure f fun u => de_var rfl) (ds_draw f (das_pure f fun u => da_cons (de_cb (ds := [.list es]) (da_cons (de_var rfl) da_nil) ca_lenL) da_nil) fun ds hds => ?_) ?_) (by omega) fun v d u' H' a b E1 hv => ?_
  · exact ⟨es.length, hds, by omega, by omega, rfl, fun x x0 x1 => ⟨x, rfl, x0, x1⟩⟩
  · rintro x y rfl ⟨z, rfl, z0, z1⟩
    have hz : z.toNat < es.length := by omega
    refine ⟨es[z.toNat], od_ixL ?_, hR _ (List.getElem_mem hz)⟩
    have := atI_nat (List.getElem?_eq_getElem hz)
    rw [Int.toNat_of_nonneg z0] at this
    exact this
  · exact q v H' d u' a (b.mono (by omega)) (fin_chg (i := 0) E1 rfl) hv
abbrev s__law_bent : Stmt := topS 49
abbrev n__law_bent : List Str := ["_law_purse_here", "_law_rows", "_law_signs", "_law_found", "_law_row", "_law_at", "_law_number"]
theorem sc__law_bent : FnScope n__law_bent ["_law_purse_here", "_law_rows"] (defScope s__law_bent) := ⟨rfl, rfl, rfl, by decide +kernel, rfl, by decide +kernel, by decide +kernel⟩
def pre_bent (ds : List D) (n : Nat) (R : D → Prop) : Prop := ∃ M : Mx, ds = [.list (mD M)] ∧ SzM 300 M ∧ n = 3 ∧ ∀ s0 s1 : Int, (s0 = 1 ∨ s0 = -1) → (s1 = 1 ∨ s1 = -1) → ∀ b : Bool, R (.list (mD (bentM s0 s1 b M)))
theorem ok__law_bent (T : Bt mg) (F : Fun K "_law_bent" "_law_bent" s__law_bent f fd) (F__law_draw : Fn P w K mg base "_law_draw" 1 ["_law_purse_here", "_law_many"] (spP K pre_draw)) (F__law_one_of : Fn P w K mg base "_law_one_of" 2 ["_law_purse_here", "_law_some"] (spP K pre_one_of)) : FnOk P w K mg base CX0 3 f fd ["_law_purse_here", "_law_rows"] (spP K pre_bent) := by
  refine fn_okP F sc__law_bent (n := 5) rfl (fun ds m R h => ?_) (fun cdv A outer s H us Q E B p u j m ds R hr hp hu hk E0 q => ?_)
  · obtain ⟨_, rfl, _⟩ := h; rfl
  obtain ⟨M, rfl, zM, rfl, hR⟩ := hp
  refine ⟨_, (pss_cons (ps_set (i := 2) sc__law_bent.nd rfl (by first | exact Or.inl rfl | exact Or.inr rfl) (pe_lc (own := [("_law_row", 4)]) rfl sc__law_bent.nd (k_pl K rfl (pv 1)) (blkOk_by (by kernel_rfl)) (fun _ _ _ _ _ => pg_name (i := 4) sc__law_bent.nd rfl (by first | exact Or.inl rfl | exact Or.inr rfl)) (fun _ _ _ _ _ => pts_nil) (fun _ _ _ _ _ => (pe_fn F__law_one_of (hr.mono (by decide)) (by rfl) (pa_cons (pv 0) (pa_cons (pe_lst (pa_cons pe_int (pa_cons (pe_un un_neg pe_int) pa_nil))) pa_nil))))))
      (pss_cons (ps_setLc (i := 3) (own := [("_law_at", 5)]) rfl sc__law_bent.nd rfl rfl (sw_true rfl rfl rfl (by decide +kernel)) (pi_range1 rfl T.b_range (pa_cons pe_int pa_nil)) (blkOk_by (by kernel_rfl)) (fun _ _ _ _ _ => pg_name (i := 5) sc__law_bent.nd rfl (by first | exact Or.inl rfl | exact Or.inr rfl)) (fun _ _ _ _ _ => pts_nil) (fun _ _ _ _ _ => (pe_lc (own := [("_law_number", 6)]) rfl sc__law_bent.nd (k_pl K rfl (pe_ix (k_ix K rfl) (pv 1) (pv 5) (fun _ _ => rfl))) (blkOk_by (by kernel_rfl)) (fun _ _ _ _ _ => pg_name (i := 6) sc__law_bent.nd rfl (by first | exact Or.inl rfl | exact Or.inr rfl)) (fun _ _ _ _ _ => pts_nil) (fun _ _ _ _ _ => (pe_op op_mulW (pv 6) (pe_ix (k_ix K rfl) (pv 2) (pv 5) (fun _ _ => rfl)))))))
      (pss_one (ps_ret (pe_ifExp (pt_cmpR (k_eq K rfl hr.units) (pe_fn F__law_draw (hr.mono (by decide)) (by rfl) (pa_cons (pv 0) (pa_cons pe_int pa_nil))) pe_int (nomark _)) (k_rev K rfl (pv 3)) (pv 3)))))), ?_⟩
  have f : Pf 0 p (fun u => [.own p u.ds, .dat (.list (mD M)), .emp, .emp, .emp, .emp, .emp]) := ⟨fun _ => rfl, fun _ _ => rfl⟩
  refine q_asgS f (u := u) (j := 2) (n := 2 * 1) (R := fun d => ∃ ds, d = .list ds ∧ ds.length = 2 ∧ ∀ e ∈ ds, e = .int 1 ∨ e = .int (-1)) E0 hu (ds_lc f (n := 1) (xs := [(M.a, M.b), (M.c, M.d)]) (enc := pL) (fun x u => [.own p u.ds, .dat (.list (mD M)), .emp, .emp, .dat (pL x), .emp, .emp]) (by simp) (fun u => di_list (ds := mD M) (de_var rfl)) (by simp) fun l x hx => ⟨fun u => dg_name (by simp), ?_⟩) (by omega) fun d u1 σ1 H1 hd hu1 E1 => ?_
  · have f2 : Pf 0 p (fun u => [.own p u.ds, .dat (.list (mD M)), .emp, .emp, .dat (pL x), .emp, .emp]) := ⟨fun _ => rfl, fun _ _ => rfl⟩
    refine ds_draw (n1 := 0) (n2 := 1) f2 (das_pure f2 fun u => da_cons (DL.de (dl_lst (da_cons de_int (da_cons (de_neg de_int) da_nil)) (by simp))) da_nil) fun ds hds => ?_
    exact ⟨_, hds, by simp, by simp, rfl, fun e he => by
      simp only [List.mem_cons, List.not_mem_nil, or_false] at he
      exact he⟩
  obtain ⟨ds, rfl, hl, hall⟩ := hd
  obtain ⟨s0, s1, rfl, h0, h1⟩ : ∃ s0 s1 : Int, ds = [.int s0, .int s1] ∧ (s0 = 1 ∨ s0 = -1) ∧ (s1 = 1 ∨ s1 = -1) := by
    rcases ds with _ | ⟨a, _ | ⟨b, _ | ⟨c, r⟩⟩⟩
    · simp at hl
    · simp at hl
    · have ha := hall a (by simp)
      have hb := hall b (by simp)
      rcases ha with rfl | rfl <;> rcases hb with rfl | rfl
      · exact ⟨1, 1, rfl, .inl rfl, .inl rfl⟩
      · exact ⟨1, -1, rfl, .inl rfl, .inr rfl⟩
      · exact ⟨-1, 1, rfl, .inr rfl, .inl rfl⟩
      · exact ⟨-1, -1, rfl, .inr rfl, .inr rfl⟩
    · simp at hl
  have zs : ∀ {s : Int}, (s = 1 ∨ s = -1) → Sz 1 s := fun h => ⟨by rcases h with rfl | rfl <;> decide⟩
  refine q_asg E1 (i := 3) (d := .list (mD (signM s0 s1 M))) (DL.de (DL.is (dl_lc (xs := [0, 1]) (enc := PyData.int) _ (fun x => if x = 0 then pL (M.a * s0, M.b * s0) else pL (M.c * s1, M.d * s1)) (DI.dw (DI.is (di_rng1 (n := 2) de_int (by decide) (by decide)) rg2)) (by simp) fun l x hx => ⟨dg_name (by simp), ?_⟩) rfl)) fun σ2 H2 E2 => ?_
  · simp only [List.mem_cons, List.not_mem_nil, or_false] at hx
    rcases hx with rfl | rfl
    · refine DL.de (DL.is (dl_lc (xs := [M.a, M.b]) (enc := PyData.int) _ (fun x => .int (x * s0)) (di_list (ds := [.int M.a, .int M.b]) (de_op (de_var rfl) (de_var rfl) (od_ixL rfl))).dw (by simp) fun l x hx => ⟨dg_name (by simp), de_op (de_var rfl) (de_op (de_var rfl) (de_var rfl) (od_ixL rfl)) (od_i (mulW (n := 300) ?_ (zs h0) (by decide)))⟩) rfl)
      simp only [List.mem_cons, List.not_mem_nil, or_false] at hx
      rcases hx with rfl | rfl
      · exact zM.a
      · exact zM.b
    · refine DL.de (DL.is (dl_lc (xs := [M.c, M.d]) (enc := PyData.int) _ (fun x => .int (x * s1)) (di_list (ds := [.int M.c, .int M.d]) (de_op (de_var rfl) (de_var rfl) (od_ixL rfl))).dw (by simp) fun l x hx => ⟨dg_name (by simp), de_op (de_var rfl) (de_op (de_var rfl) (de_var rfl) (od_ixL rfl)) (od_i (mulW (n := 300) ?_ (zs h1) (by decide)))⟩) rfl)
      simp only [List.mem_cons, List.not_mem_nil, or_false] at hx
      rcases hx with rfl | rfl
      · exact zM.c
      · exact zM.d
  have f3 : Pf 0 p (fun u => [.own p u.ds, .dat (.list (mD M)), .dat (.list [.int s0, .int s1]), .dat (.list (mD (signM s0 s1 M))), .emp, .emp, .emp]) := ⟨fun _ => rfl, fun _ _ => rfl⟩
  refine s_retS f3 (u := u1) (n := 0 + 1 + 0) E2 hu1 (ds_if f3 (Rc := fun d => ∃ b, d = .bool b) (ds_op f3 (Ra := fun d => ∃ x : Int, d = .int x) (ds_draw f3 (das_pure f3 fun u => da_cons de_int da_nil) fun ds hds => ⟨2, hds, by decide, by decide, rfl, fun x _ _ => ⟨x, rfl⟩⟩) (ds_pure f3 fun u => de_int) ?_) (fun d h => h) (d1 := .list (mD (signM s0 s1 M).swap)) (d2 := .list (mD (signM s0 s1 M))) (fun u => DL.de (DL.is (dl_rev (de_var rfl)) rfl)) (fun u => de_var rfl)) (by omega) fun v d u' H' a b E3 hv => ?_
  · rintro x y ⟨z, rfl⟩ rfl
    exact ⟨_, od_eq (d1 := .int z) (d2 := .int 0) rfl rfl, _, rfl⟩
  · refine q v H' d u' ?_ (b.mono (by omega)) (fin_chg (i := 0) E3 rfl) hv
    rcases a with rfl | rfl
    · exact hR s0 s1 h0 h1 true
    · exact hR s0 s1 h0 h1 false
end
end WS
namespace WS
open PySem PySem.Spec PyProof.Rows L2
local macro_rules | `(tactic| walk_at "num") => `(tactic| first | assumption | exact mulW (by assumption) (by assumption) (by decide))
local macro_rules | `(tactic| walk_at "de") => `(tactic| first
  | exact de_int | exact de_str | exact de_bl | exact de_non | exact de_var rfl | exact da_nil | exact do_none | assumption
  | ((with_reducible apply da_cons) <;> walk_at "de")
  | ((with_reducible apply de_tup) <;> first | walk_at "de" | (simp; done))
  | ((with_reducible apply de_op) <;> walk_at "de")
  | ((with_reducible show DE _ _ (tCB (rIsi _) (tCons _ (tCons (tC (.ty "int")) tNil))) _ _); apply isi_int; walk_at "de")
  | ((with_reducible show DE _ _ (tCB (rIsi _) (tCons _ (tCons (tC (.ty "bool")) tNil))) _ _); apply isi_bool; walk_at "de")
  | ((with_reducible show DE _ _ (tCB (rIsi _) (tCons _ (tCons (tC (.ty "list")) tNil))) _ _); apply isi_list; walk_at "de")
  | ((with_reducible show DE _ _ (tCB (rIsi _) (tCons _ (tCons (tC (.ty "tuple")) tNil))) _ _); apply isi_tup; walk_at "de")
  | ((with_reducible apply de_cb) <;> walk_at "de")
  | ((with_reducible apply de_neg) <;> walk_at "de")
  | ((with_reducible apply dt_test) <;> walk_at "de")
  | ((with_reducible apply dt_B) <;> walk_at "de")
  | ((with_reducible apply dt_not) <;> walk_at "de")
  | ((with_reducible apply de_notV) <;> walk_at "de")
  | ((with_reducible apply do_some) <;> walk_at "de")
  | exact ca_lenL | exact ca_lenT | exact ca_abs | exact ca_intI | exact ca_intB | exact ca_min2
  | exact od_i0 | exact od_b0
  | exact od_ixL rfl | exact od_ixT rfl
  | exact od_ixP0 (by assumption) | exact od_ixP1 (by assumption)
  | (refine od_i ?_; walk_at "num"))

def mx2 (x y : Int) : Int := if y ≤ x then x else y
def ab (i : Int) : Int := if i < 0 then -i else i
theorem ab_le {i : Int} {n : Nat} (h : ab i ≤ n) : i.natAbs ≤ n := by unfold ab at h; split at h <;> omega
theorem mx2_spec (x y : Int) : mx2 x y ∈ [x, y] ∧ ∀ z ∈ [x, y], z ≤ mx2 x y := by
  unfold mx2
  constructor
  · split <;> simp
  · intro z hz
    simp only [List.mem_cons, List.not_mem_nil, or_false] at hz
    split <;> omega
def mostM (M : Mx) : Int := mx2 (mx2 (ab M.a) (ab M.b)) (mx2 (ab M.c) (ab M.d))
theorem mostM_le {M : Mx} {n : Nat} (h : mostM M ≤ n) : LeM n M := by
  unfold mostM at h
  have a := (mx2_spec (mx2 (ab M.a) (ab M.b)) (mx2 (ab M.c) (ab M.d))).2
  have b := (mx2_spec (ab M.a) (ab M.b)).2
  have c := (mx2_spec (ab M.c) (ab M.d)).2
  have a1 := a _ List.mem_cons_self
  have a2 := a _ (List.mem_cons_of_mem _ List.mem_cons_self)
  have b1 := b _ List.mem_cons_self
  have b2 := b _ (List.mem_cons_of_mem _ List.mem_cons_self)
  have c1 := c _ List.mem_cons_self
  have c2 := c _ (List.mem_cons_of_mem _ List.mem_cons_self)
  exact ⟨ab_le (by omega), ab_le (by omega), ab_le (by omega), ab_le (by omega)⟩
theorem sz60 {x : Int} (h : x.natAbs ≤ 60) : Sz 10 x := ⟨by omega⟩
theorem LeM.sz {M : Mx} (h : LeM 60 M) : SzM 10 M := ⟨sz60 h.a, sz60 h.b, sz60 h.c, sz60 h.d⟩
theorem lf_det (to : Bool) (k : Int) (M : Mx) : ((Stp.lf to k).run M).det = M.det := by
  cases to
  · exact det_lift0 k M
  · exact det_lift1 k M
section
variable {P : Program} {w : World} {K : PySem.W.Frag} {mg : Str → Option Value} {base : Heap} {f : Addr} {fd : FuncData} {C : Addr}
abbrev s__law_drawn : Stmt := topS 48
abbrev n__law_drawn : List Str := ["_law_purse_here", "_law_rows", "_law_turn", "_law_later", "_law_row", "_law_number"]
theorem sc__law_drawn : FnScope n__law_drawn ["_law_purse_here"] (defScope s__law_drawn) := ⟨rfl, rfl, rfl, by decide +kernel, rfl, by decide +kernel, by decide +kernel⟩
def pre_drawn (ds : List D) (n : Nat) (R : D → Prop) : Prop := ds = [] ∧ n = 18 ∧ ∀ M : Mx, Uni M → LeM 60 M → R (.list (mD M))
theorem ok__law_drawn (T : Bt mg) (F : Fun K "_law_drawn" "_law_drawn" s__law_drawn f fd) (F__law_draw : Fn P w K mg base "_law_draw" 1 ["_law_purse_here", "_law_many"] (spP K pre_draw)) (F__law_lifted : Fn P w K mg base "_law_lifted" 1 ["_law_rows", "_law_to", "_law_weight"] (spD K pre_lifted)) (F__law_bent : Fn P w K mg base "_law_bent" 3 ["_law_purse_here", "_law_rows"] (spP K pre_bent)) : FnOk P w K mg base CX0 4 f fd ["_law_purse_here"] (spP K pre_drawn) := by
  refine fn_okP (ps := []) F sc__law_drawn (n := 5) rfl (fun ds m R h => ?_) (fun cdv A outer s H us Q E B p u j m ds R hr hp hu hk E0 q => ?_)
  · obtain ⟨rfl, _⟩ := h; rfl
  obtain ⟨rfl, rfl, hR⟩ := hp
  refine ⟨_, (pss_cons (ps_set (i := 1) sc__law_drawn.nd rfl (by first | exact Or.inl rfl | exact Or.inr rfl) (pe_lst (pa_cons (pe_lst (pa_cons pe_int (pa_cons pe_int pa_nil))) (pa_cons (pe_lst (pa_cons pe_int (pa_cons pe_int pa_nil))) pa_nil))))
      (pss_cons (ps_for PassesOwn.never rfl (pi_range1 rfl T.b_range (pa_cons (pe_fn F__law_draw (hr.mono (by decide)) (by rfl) (pa_cons (pv 0) (pa_cons pe_int pa_nil))) pa_nil)) (pg_name (i := 2) sc__law_drawn.nd rfl (by first | exact Or.inl rfl | exact Or.inr rfl)) (pss_cons (ps_set (i := 3) sc__law_drawn.nd rfl (by first | exact Or.inl rfl | exact Or.inr rfl) (pe_fn F__law_lifted (hr.mono (by decide)) (by rfl) (pa_cons (pv 1) (pa_cons (pe_fn F__law_draw (hr.mono (by decide)) (by rfl) (pa_cons (pv 0) (pa_cons pe_int pa_nil))) (pa_cons (pe_op op_sub (pe_fn F__law_draw (hr.mono (by decide)) (by rfl) (pa_cons (pv 0) (pa_cons pe_int pa_nil))) pe_int) pa_nil)))))
      (pss_one (ps_set (i := 1) sc__law_drawn.nd rfl (by first | exact Or.inl rfl | exact Or.inr rfl) (pe_ifExp (pt_cmpR op_le (pe_callB (k_max K rfl rfl) (by rfl) T.b_max boot_max (pa_cons (pe_lc (own := [("_law_row", 4)]) rfl sc__law_drawn.nd (k_pl K rfl (pv 3)) (blkOk_by (by kernel_rfl)) (fun _ _ _ _ _ => pg_name (i := 4) sc__law_drawn.nd rfl (by first | exact Or.inl rfl | exact Or.inr rfl)) (fun _ _ _ _ _ => pts_nil) (fun _ _ _ _ _ => (pe_callB (k_max K rfl rfl) (by rfl) T.b_max boot_max (pa_cons (pe_lc (own := [("_law_number", 5)]) rfl sc__law_drawn.nd (k_pl K rfl (pv 4)) (blkOk_by (by kernel_rfl)) (fun _ _ _ _ _ => pg_name (i := 5) sc__law_drawn.nd rfl (by first | exact Or.inl rfl | exact Or.inr rfl)) (fun _ _ _ _ _ => pts_nil) (fun _ _ _ _ _ => (pe_callB call_abs (by rfl) T.b_abs boot_abs (pa_cons (pv 5) pa_nil)))) pa_nil)))) pa_nil)) pe_int (nomark _)) (pv 3) (pv 1))))))
      (pss_one (ps_ret (pe_fn F__law_bent (hr.mono (by decide)) (by rfl) (pa_cons (pv 0) (pa_cons (pv 1) pa_nil))))))), ?_⟩
  refine q_asg E0 (i := 1) (d := .list (mD Mx.one)) (DL.de (dl_lst (da_cons (DL.de (dl_lst (da_cons de_int (da_cons de_int da_nil)) (by simp))) (da_cons (DL.de (dl_lst (da_cons de_int (da_cons de_int da_nil)) (by simp))) da_nil)) (by decide))) fun σ1 H1 E1 => ?_
  have f1 : Pf 0 p (fun u => [.own p u.ds, .dat (.list (mD Mx.one)), .emp, .emp, .emp, .emp]) := ⟨fun _ => rfl, fun _ _ => rfl⟩
  refine q_forS f1 (u := u) (n := 0 + 1) (R := fun d => ∃ x : Int, d = .int x ∧ 0 ≤ x ∧ x < 8) E1 hu (ds_draw f1 (das_pure f1 fun u => da_cons de_int da_nil) fun ds hds => ⟨8, hds, by decide, by decide, rfl, fun x x0 x1 => ⟨x, rfl, x0, x1⟩⟩) (by omega) (fun d ⟨x, e, x0, x1⟩ => ⟨x.toNat, by rw [e, Int.toNat_of_nonneg x0], by omega⟩) fun m u1 H2 hm hu1 E2 => ?_
  have hm8 : m < 8 := by
    obtain ⟨x, e, _, x1⟩ := hm
    injection e with e; omega
  refine q_forX E2 (vs := [2]) (di_it (m := m)) (fun i Γ => ∃ (M : Mx) (u : Pu) (s2 s3 s4 s5 : Sl), Γ = [.own p u.ds, .dat (.list (mD M)), s2, s3, s4, s5] ∧ M.det = 1 ∧ LeM 60 M ∧ PuOk (j + (0 + 1) + 2 * i) u) ⟨Mx.one, u1, _, _, _, _, rfl, by decide, ⟨by decide, by decide, by decide, by decide⟩, hu1⟩ (fun i d Γi hd hΓ => ?_) (fun B3 Γ3 σ3 H3 hΓ hs E3 => ?_)
  · obtain ⟨M, u2, s2, s3, s4, s5, rfl, hdet, hle, hu2⟩ := hΓ
    obtain ⟨hi, rfl⟩ := rgD_get hd
    refine ⟨_, fun B' => dg_name (by simp), fun B' H0' σ' H' hs' E4 N hN X Y Z => ?_⟩
    have f4 : Pf 0 p (fun u => [.own p u.ds, .dat (.list (mD M)), .dat (.int (0 + (i : Nat))), s3, s4, s5]) := ⟨fun _ => rfl, fun _ _ => rfl⟩
    refine q_asgS f4 (u := u2) (j := 3) (n := 0 + ((0 + 1) + (((0 + 1) + 0) + 0))) (R := fun d => ∃ (to : Bool) (k : Int), d = .list (mD ((Stp.lf to k).run M))) E4 hu2 (ds_call f4 (das_cons f4 (ds_pure f4 (d := .list (mD M)) fun u => de_var rfl) (das_cons f4 (ds_draw f4 (R := fun d => ∃ x : Int, d = .int x ∧ 0 ≤ x ∧ x < 2) (das_pure f4 fun u => da_cons de_int da_nil) fun ds hds => ⟨2, hds, by decide, by decide, rfl, fun x x0 x1 => ⟨x, rfl, x0, x1⟩⟩) (das_cons f4 (ds_op f4 (R := fun d => ∃ x : Int, d = .int x ∧ x.natAbs ≤ 8) (ds_draw f4 (R := fun d => ∃ x : Int, d = .int x ∧ 0 ≤ x ∧ x < 9) (das_pure f4 fun u => da_cons de_int da_nil) fun ds hds => ⟨9, hds, by decide, by decide, rfl, fun x x0 x1 => ⟨x, rfl, x0, x1⟩⟩) (ds_pure f4 (d := .int 4) fun u => de_int) ?_) (das_pure f4 fun u => da_nil)))) ?_) (by omega) fun d u5 σ5 H5 hd5 hu5 E5 => ?_
    · rintro x y ⟨z, rfl, z0, z1⟩ rfl
      exact ⟨_, od_i0, z - 4, rfl, by omega⟩
    · rintro ds ⟨d1, e1, rfl, rfl, d2, e2, rfl, ⟨x, rfl, x0, x1⟩, d3, e3, rfl, ⟨k, rfl, hk8⟩, rfl⟩
      obtain ⟨to, hto⟩ : ∃ to : Bool, b2n to = x := by
        by_cases z : x = 0
        · exact ⟨false, z.symm⟩
        · exact ⟨true, by show (1 : Int) = x; omega⟩
      rw [← hto]
      exact ⟨_, ⟨M, to, k, rfl, (hle.sz).mono (by decide), Sz.mono (n := 10) ⟨by omega⟩ (by decide), rfl⟩, to, k, rfl⟩
    obtain ⟨to, k, rfl⟩ := hd5
    have hdet2 : ((Stp.lf to k).run M).det = 1 := by rw [lf_det, hdet]
    generalize (Stp.lf to k).run M = L at *
    refine s_asg E5 (i := 1) (d := .list (mD (if decide (mostM L ≤ 60) = true then L else M))) (de_if (b := decide (mostM L ≤ 60)) ?_ (fun hb => by rw [if_pos hb]; exact de_var rfl) (fun hb => by rw [if_neg (by rw [hb]; exact Bool.false_ne_true)]; exact de_var rfl)) fun σ6 H6 E6 => ?_
    · refine dt_test (de_op (de_cb (ds := [.list ([mx2 (ab L.a) (ab L.b), mx2 (ab L.c) (ab L.d)].map PyData.int)]) (da_cons (DL.de (DL.is (dl_lc (xs := [(L.a, L.b), (L.c, L.d)]) (enc := pL) _ (fun x => .int (mx2 (ab x.1) (ab x.2))) (di_list (ds := mD L) (de_var rfl)).dw (by simp) fun l x hx => ⟨dg_name (by simp), ?_⟩) rfl)) da_nil) (ca_max (m := mostM L) (mx2_spec _ _).1 (mx2_spec _ _).2)) de_int od_b0)
      refine de_cb (ds := [.list ([ab x.1, ab x.2].map PyData.int)]) (da_cons (DL.de (DL.is (dl_lc (xs := [x.1, x.2]) (enc := PyData.int) _ (fun i => .int (ab i)) (di_list (ds := [.int x.1, .int x.2]) (de_var rfl)).dw (by simp) fun l y hy => ⟨dg_name (by simp), de_cb (ds := [.int y]) (da_cons (de_var rfl) da_nil) ca_abs⟩) rfl)) da_nil) (ca_max (m := mx2 (ab x.1) (ab x.2)) (mx2_spec _ _).1 (mx2_spec _ _).2)
    · refine hN _ _ _ _ ⟨if decide (mostM L ≤ 60) = true then L else M, u5, _, _, _, _, rfl, ?_, ?_, hu5.mono (by omega)⟩ (fun b hb => hb) E6
      · split
        · exact hdet2
        · exact hdet
      · split
        · rename_i hb
          exact mostM_le (of_decide_eq_true hb)
        · exact hle
  · obtain ⟨M, u2, s2, s3, s4, s5, rfl, hdet, hle, hu2⟩ := hΓ
    rw [rgD_len] at hu2
    have f5 : Pf 0 p (fun u => [.own p u.ds, .dat (.list (mD M)), s2, s3, s4, s5]) := ⟨fun _ => rfl, fun _ _ => rfl⟩
    refine s_retS f5 (u := u2) (n := 0 + 3) (R := R) E3 hu2 (ds_draw f5 (das_pure f5 fun u => da_cons (de_var rfl) da_nil) fun ds hds => ⟨M, hds, (hle.sz).mono (by decide), rfl, fun s0 s1 h0 h1 b => hR _ (bent_uni h0 h1 b hdet) (bent_le h0 h1 b hle)⟩) (by omega) fun v d u' H' a b E4 hv => ?_
    exact q v H' d u' a (b.mono (by omega)) (fin_chg (i := 0) E4 rfl) (hv.ex (msk_sub hs))
abbrev s__law_steep : Stmt := topS 50
abbrev n__law_steep : List Str := ["_law_purse_here", "_law_many", "_law_to", "_law_rows", "_law_turn"]
theorem sc__law_steep : FnScope n__law_steep ["_law_purse_here"] (defScope s__law_steep) := ⟨rfl, rfl, rfl, by decide +kernel, rfl, by decide +kernel, by decide +kernel⟩
def pre_steep (ds : List D) (n : Nat) (R : D → Prop) : Prop := ds = [] ∧ n = 25 ∧ ∀ (M : Mx) (m : Nat), fw M = m → Uni M → SzM 100 M → R (.list [.list (mD M), .int (m : Nat)])
theorem ok__law_steep (T : Bt mg) (F : Fun K "_law_steep" "_law_steep" s__law_steep f fd) (F__law_draw : Fn P w K mg base "_law_draw" 1 ["_law_purse_here", "_law_many"] (spP K pre_draw)) (F__law_one_of : Fn P w K mg base "_law_one_of" 2 ["_law_purse_here", "_law_some"] (spP K pre_one_of)) (F__law_lifted : Fn P w K mg base "_law_lifted" 1 ["_law_rows", "_law_to", "_law_weight"] (spD K pre_lifted)) (F__law_bent : Fn P w K mg base "_law_bent" 3 ["_law_purse_here", "_law_rows"] (spP K pre_bent)) : FnOk P w K mg base CX0 4 f fd ["_law_purse_here"] (spP K pre_steep) := by
  refine fn_okP (ps := []) F sc__law_steep (n := 4) rfl (fun ds m R h => ?_) (fun cdv A outer s H us Q E B p u j m ds R hr hp hu hk E0 q => ?_)
  · obtain ⟨rfl, _⟩ := h; rfl
  obtain ⟨rfl, rfl, hR⟩ := hp
  refine ⟨_, (pss_cons (ps_par3 (i := 1) (j := 2) (l := 3) rfl sc__law_steep.nd rfl rfl rfl (by decide) (by decide) (by decide) rfl rfl rfl (pa_cons (pe_fn F__law_draw (hr.mono (by decide)) (by rfl) (pa_cons (pv 0) (pa_cons pe_int pa_nil))) (pa_cons (pe_fn F__law_draw (hr.mono (by decide)) (by rfl) (pa_cons (pv 0) (pa_cons pe_int pa_nil))) (pa_cons (pe_lst (pa_cons (pe_lst (pa_cons pe_int (pa_cons pe_int pa_nil))) (pa_cons (pe_lst (pa_cons pe_int (pa_cons pe_int pa_nil))) pa_nil))) pa_nil))) rfl)
      (pss_cons (ps_for PassesOwn.never rfl (pi_range1 rfl T.b_range (pa_cons (pv 1) pa_nil)) (pg_name (i := 4) sc__law_steep.nd rfl (by first | exact Or.inl rfl | exact Or.inr rfl)) (pss_cons (ps_set (i := 3) sc__law_steep.nd rfl (by first | exact Or.inl rfl | exact Or.inr rfl) (pe_fn F__law_lifted (hr.mono (by decide)) (by rfl) (pa_cons (pv 3) (pa_cons (pv 2) (pa_cons (pe_fn F__law_one_of (hr.mono (by decide)) (by rfl) (pa_cons (pv 0) (pa_cons (pe_lst (pa_cons pe_int (pa_cons (pe_un un_neg pe_int) (pa_cons pe_int (pa_cons (pe_un un_neg pe_int) (pa_cons (pe_op op_add pe_int (pe_fn F__law_draw (hr.mono (by decide)) (by rfl) (pa_cons (pv 0) (pa_cons pe_int pa_nil)))) pa_nil)))))) pa_nil))) pa_nil)))))
      (pss_one (ps_set (i := 2) sc__law_steep.nd rfl (by first | exact Or.inl rfl | exact Or.inr rfl) (pe_op op_sub pe_int (pv 2))))))
      (pss_one (ps_ret (pe_lst (pa_cons (pe_fn F__law_bent (hr.mono (by decide)) (by rfl) (pa_cons (pv 0) (pa_cons (pv 3) pa_nil))) (pa_cons (pv 1) pa_nil))))))), ?_⟩
  have f0 : Pf 0 p (fun u => [.own p u.ds, .emp, .emp, .emp, .emp]) := ⟨fun _ => rfl, fun _ _ => rfl⟩
  refine q_par3S f0 (u := u) (n := (0 + 1) + ((0 + 1) + 0)) E0 hu (das_cons f0 (ds_draw f0 (R := fun d => ∃ x : Int, d = .int x ∧ 0 ≤ x ∧ x < 11) (das_pure f0 fun u => da_cons de_int da_nil) fun ds hds => ⟨11, hds, by decide, by decide, rfl, fun x x0 x1 => ⟨x, rfl, x0, x1⟩⟩) (das_cons f0 (ds_draw f0 (R := fun d => ∃ x : Int, d = .int x ∧ 0 ≤ x ∧ x < 2) (das_pure f0 fun u => da_cons de_int da_nil) fun ds hds => ⟨2, hds, by decide, by decide, rfl, fun x x0 x1 => ⟨x, rfl, x0, x1⟩⟩) (das_pure f0 (ds := [.list (mD Mx.one)]) fun u => da_cons (DL.de (dl_lst (da_cons (DL.de (dl_lst (da_cons de_int (da_cons de_int da_nil)) (by simp))) (da_cons (DL.de (dl_lst (da_cons de_int (da_cons de_int da_nil)) (by simp))) da_nil)) (by decide))) da_nil))) (by omega) ?_ fun a b c u1 σ1 H1 hd hu1 E1 => ?_
  · rintro ds ⟨d1, e1, rfl, _, d2, e2, rfl, _, rfl⟩
    exact ⟨_, _, _, rfl⟩
  obtain ⟨d1, e1, he1, ⟨x, rfl, x0, x1⟩, d2, e2, he2, ⟨y, rfl, y0, y1⟩, he3⟩ := hd
  injection he1 with ha he1
  rw [he2] at he1
  injection he1 with hb he1
  rw [he3] at he1
  injection he1 with hc _
  subst ha hb hc
  obtain ⟨t0, hto⟩ : ∃ t0 : Bool, b2n t0 = y := by
    by_cases z : y = 0
    · exact ⟨false, z.symm⟩
    · exact ⟨true, by show (1 : Int) = y; omega⟩
  subst hto
  refine q_forX E1 (vs := [4]) (di_rng1 (n := x) (de_var rfl) (by omega) (by omega)) (fun i Γ => ∃ (M : Mx) (u : Pu) (to : Bool) (ws : List Int) (s4 : Sl), Γ = [.own p u.ds, .dat (.int x), .dat (.int (b2n to)), .dat (.list (mD M)), s4] ∧ SteepAt t0 to ws M ∧ ws.length = i ∧ PuOk (j + ((0 + 1) + ((0 + 1) + 0)) + 2 * i) u) ⟨Mx.one, u1, t0, [], _, rfl, steep_start t0, rfl, hu1⟩ (fun i d Γi hd hΓ => ?_) (fun B3 Γ3 σ3 H3 hΓ hs E3 => ?_)
  · obtain ⟨M, u2, to, ws, s4, rfl, hst, hws, hu2⟩ := hΓ
    obtain ⟨hi, rfl⟩ := rgD_get hd
    refine ⟨_, fun B' => dg_name (by simp), fun B' H0' σ' H' hs' E4 N hN X Y Z => ?_⟩
    have f4 : Pf 0 p (fun u => [.own p u.ds, .dat (.int x), .dat (.int (b2n to)), .dat (.list (mD M)), .dat (.int (0 + (i : Nat)))]) := ⟨fun _ => rfl, fun _ _ => rfl⟩
    have neg : ∀ {k : Int} {u : Pu}, DE K B' (tUn (rU fun i => .int (-i)) (tC (.int k))) [.own p u.ds, .dat (.int x), .dat (.int (b2n to)), .dat (.list (mD M)), .dat (.int (0 + (i : Nat)))] (.int (-k)) := de_neg de_int
    refine q_asgS f4 (u := u2) (j := 3) (n := 0 + (0 + ((((0 + (0 + (0 + (0 + (0 + (0 + 1) + 0))))) + 0) + 1) + 0))) (R := fun d => ∃ k : Int, d = .list (mD ((Stp.lf to k).run M)) ∧ 3 ≤ k.natAbs ∧ k.natAbs ≤ 200) E4 hu2 (ds_call f4 (das_cons f4 (ds_pure f4 (d := .list (mD M)) fun u => de_var rfl) (das_cons f4 (ds_pure f4 (d := .int (b2n to)) fun u => de_var rfl) (das_cons f4 (ds_draw f4 (R := fun d => ∃ k : Int, d = .int k ∧ 3 ≤ k.natAbs ∧ k.natAbs ≤ 200) (das_cons f4 (ds_lst f4 (das_cons f4 (ds_pure f4 (d := .int 3) fun u => de_int) (das_cons f4 (ds_pure f4 (d := .int (-3)) fun u => neg) (das_cons f4 (ds_pure f4 (d := .int 4) fun u => de_int) (das_cons f4 (ds_pure f4 (d := .int (-5)) fun u => neg) (das_cons f4 (ds_op f4 (R := fun d => ∃ k : Int, d = .int k ∧ 3 ≤ k.natAbs ∧ k.natAbs ≤ 200) (ds_pure f4 (d := .int 3) fun u => de_int) (ds_draw f4 (R := fun d => ∃ x : Int, d = .int x ∧ 0 ≤ x ∧ x < 198) (das_pure f4 fun u => da_cons de_int da_nil) fun ds hds => ⟨198, hds, by decide, by decide, rfl, fun x x0 x1 => ⟨x, rfl, x0, x1⟩⟩) ?_) (das_pure f4 fun u => da_nil)))))) ?_) (das_pure f4 fun u => da_nil)) ?_) (das_pure f4 fun u => da_nil)))) ?_) (by omega) fun d u5 σ5 H5 hd5 hu5 E5 => ?_
    · rintro a b rfl ⟨z, rfl, z0, z1⟩
      exact ⟨_, od_i0, 3 + z, rfl, by omega, by omega⟩
    · rintro ds ⟨_, _, rfl, _, _, _, rfl, _, _, _, rfl, _, _, _, rfl, _, _, _, rfl, _, rfl⟩
      simp
    · rintro ds ⟨_, _, rfl, ⟨es, rfl, a1, b1, rfl, rfl, a2, b2, rfl, rfl, a3, b3, rfl, rfl, a4, b4, rfl, rfl, a5, b5, rfl, ⟨k, rfl, k1, k2⟩, rfl⟩, rfl⟩
      refine ⟨_, rfl, by simp, by simp, rfl, fun e he => ?_⟩
      simp only [List.mem_cons, List.not_mem_nil, or_false] at he
      rcases he with rfl | rfl | rfl | rfl | rfl
      · exact ⟨3, rfl, by decide, by decide⟩
      · exact ⟨-3, rfl, by decide, by decide⟩
      · exact ⟨4, rfl, by decide, by decide⟩
      · exact ⟨-5, rfl, by decide, by decide⟩
      · exact ⟨k, rfl, k1, k2⟩
    · rintro ds ⟨_, _, rfl, rfl, _, _, rfl, rfl, _, _, rfl, ⟨k, rfl, k1, k2⟩, rfl⟩
      exact ⟨_, ⟨M, to, k, rfl, hst.sz.mono (by omega), Sz.mono (n := 8) ⟨by omega⟩ (by decide), rfl⟩, k, rfl, k1, k2⟩
    obtain ⟨k, rfl, k1, k2⟩ := hd5
    refine s_asg E5 (i := 2) (d := .int (b2n (!to))) (DE.is (de_op de_int (de_var rfl) od_i0) (by cases to <;> rfl)) fun σ6 H6 E6 => ?_
    refine hN _ _ _ _ ⟨_, u5, !to, ws ++ [k], _, rfl, steep_next hst k1 ⟨by omega⟩, by rw [List.length_append, hws]; rfl, hu5.mono (by omega)⟩ (fun b hb => hb) E6
  · obtain ⟨M, u2, to, ws, s4, rfl, hst, hws, hu2⟩ := hΓ
    rw [rgD_len] at hws hu2
    have f5 : Pf 0 p (fun u => [.own p u.ds, .dat (.int x), .dat (.int (b2n to)), .dat (.list (mD M)), s4]) := ⟨fun _ => rfl, fun _ _ => rfl⟩
    have zM : SzM 100 M := hst.sz.mono (by omega)
    have hx : (x.toNat : Int) = x := Int.toNat_of_nonneg x0
    refine s_retS f5 (u := u2) (n := (0 + 3) + 0) (R := R) E3 hu2 ((ds_lst f5 (das_cons f5 (ds_draw f5 (n2 := 3) (R := fun d => ∃ N : Mx, d = .list (mD N) ∧ fw N = x.toNat ∧ Uni N ∧ SzM 100 N) (das_pure f5 fun u => da_cons (de_var rfl) da_nil) fun ds hds => ⟨M, hds, zM.mono (by decide), rfl, fun s0 s1 h0 h1 b => ⟨_, rfl, by rw [bent_fw h0 h1, steep_fw hst, hws], bent_uni h0 h1 b hst.uni, bent_sz h0 h1 b zM⟩⟩) (das_pure f5 (ds := [.int x]) fun u => da_cons (de_var rfl) da_nil)) ?_).imp (Nat.le_refl _) ?_) (by omega) fun v d u' H' a b E4 hv => ?_
    · rintro ds ⟨_, _, rfl, _, rfl⟩
      simp
    · rintro d ⟨_, rfl, _, _, rfl, ⟨N, rfl, n1, n2, n3⟩, rfl⟩
      have := hR N x.toNat n1 n2 n3
      rw [hx] at this
      exact this
    · exact q v H' d u' a (b.mono (by omega)) (fin_chg (i := 0) E4 rfl) (hv.ex (msk_sub hs))
end
end WS
namespace WS
open PySem PySem.Spec PyProof.Rows L2
local macro_rules | `(tactic| walk_at "num") => `(tactic| first | assumption | exact mulW (by assumption) (by assumption) (by decide))
local macro_rules | `(tactic| walk_at "de") => `(tactic| first
  | exact de_int | exact de_str | exact de_bl | exact de_non | exact de_var rfl | exact da_nil | exact do_none | assumption
  | ((with_reducible apply da_cons) <;> walk_at "de")
  | ((with_reducible apply de_tup) <;> first | walk_at "de" | (simp; done))
  | ((with_reducible apply de_op) <;> walk_at "de")
  | ((with_reducible show DE _ _ (tCB (rIsi _) (tCons _ (tCons (tC (.ty "int")) tNil))) _ _); apply isi_int; walk_at "de")
  | ((with_reducible show DE _ _ (tCB (rIsi _) (tCons _ (tCons (tC (.ty "bool")) tNil))) _ _); apply isi_bool; walk_at "de")
  | ((with_reducible show DE _ _ (tCB (rIsi _) (tCons _ (tCons (tC (.ty "list")) tNil))) _ _); apply isi_list; walk_at "de")
  | ((with_reducible show DE _ _ (tCB (rIsi _) (tCons _ (tCons (tC (.ty "tuple")) tNil))) _ _); apply isi_tup; walk_at "de")
  | ((with_reducible apply de_cb) <;> walk_at "de")
  | ((with_reducible apply de_neg) <;> walk_at "de")
  | ((with_reducible apply dt_test) <;> walk_at "de")
  | ((with_reducible apply dt_B) <;> walk_at "de")
  | ((with_reducible apply dt_not) <;> walk_at "de")
  | ((with_reducible apply de_notV) <;> walk_at "de")
  | ((with_reducible apply do_some) <;> walk_at "de")
  | exact ca_lenL | exact ca_lenT | exact ca_abs | exact ca_intI | exact ca_intB | exact ca_min2
  | exact od_i0 | exact od_b0
  | exact od_ixL rfl | exact od_ixT rfl
  | exact od_ixP0 (by assumption) | exact od_ixP1 (by assumption)
  | (refine od_i ?_; walk_at "num"))

section
variable {K : PySem.W.Frag} {B : List Addr} {H0 H H' : Hp} {σ : L2.St} {Γ : List Sl} {te ta tb tc : TE} {d1 d2 : D} {ds es : List D} {Dn : Ends}
theorem dl_rep {k : Int} (h : DL K B te Γ ds) (h0 : 0 ≤ k) (h1 : k ≤ 1000) (hl : ds.length * k.toNat ≤ 1000) : DL K B (tOp rRep te (tC (.int k))) Γ (List.replicate k.toNat ds).flatten := fun H0 σ H E Q q =>
  h H0 σ H E _ fun l vs H1 hn e1 hv ha => by
    refine ⟨l, k, vs, rfl, rfl, hv, by omega, by omega, by rw [ha.len]; exact big1000 hl, fun p hp => q p _ _ (e1.free hp) (e1.trans (same_new hp)) upd_same ?_⟩
    rw [msk_upd List.mem_cons_self, msk_none hp]
    exact (ha.ex (msk_sub fun b hb => List.mem_cons_of_mem _ hb)).rep k.toNat
theorem s_retL (E : Env K B H0 σ H Γ) (h : DL K B te Γ ds) (k : ∀ l vs H', H0 l = none → Same H0 H' → H' l = some (.lst vs) → DpAll K (msk (l :: B) H') vs ds → Dn.rt (.ref l) H') : tRet te Dn σ H :=
  h H0 σ H E _ fun l vs H1 hl e1 hv ha => k l vs H1 (E.ex.free hl) (E.ex.trans e1) hv ha
end
def cellOf (ns : List Int) (at_ : Int) : Int := if decide (at_ < (ns.length : Int)) = true then ns.getD at_.toNat 0 else (ns.take 1).sum % 1000003
def purseOf (ns : List Int) (at_ : Int) : Pu := ⟨(if decide (cellOf ns at_ ≥ (10 : Int) ^ (18 : Int).toNat) = true then 1 else 0) * (cellOf ns at_ % ((10 : Int) ^ (60 : Int).toNat) ^ (10 : Int).toNat), cellOf ns at_ % 2147483629, 1000 * at_⟩
theorem big_pos : (0 : Int) < ((10 : Int) ^ (60 : Int).toNat) ^ (10 : Int).toNat := Int.pow_pos (Int.pow_pos (by decide))
theorem big_sz : (((10 : Int) ^ (60 : Int).toNat) ^ (10 : Int).toNat).natAbs < 2 ^ 2000 := by
  rw [Int.natAbs_pow, Int.natAbs_pow]
  have h : (10 : Int).natAbs ^ (60 : Int).toNat < 2 ^ 200 := by decide +kernel
  have := Nat.pow_lt_pow_left h (n := (10 : Int).toNat) (by decide)
  rw [← Nat.pow_mul] at this
  exact this
theorem cpow60 : CPowW ((10 : Int) ^ (60 : Int).toNat) 10 := by
  have h : ((10 : Int) ^ (60 : Int).toNat).natAbs < 2 ^ 200 := by
    rw [Int.natAbs_pow]; decide +kernel
  have b := PyProof.Rows.intBits_le (k := 200) h
  refine ⟨by decide, ?_⟩
  have e : (2 : Int) ^ 27 = 134217728 := by decide
  rw [e]
  omega
theorem cut01 (ns : List Int) : cutD (ns.map PyData.int) none (some 1) = (ns.take 1).map PyData.int := by
  unfold cutD
  rw [HT.sIx_none, show HT.sIx (ns.map PyData.int).length (ns.map PyData.int).length (some 1) = min 1 (ns.map PyData.int).length from HT.sIx_nat _ _ 1, List.drop_zero, Nat.sub_zero, List.map_take]
  rcases ns with _ | ⟨x, r⟩
  · rfl
  · rw [List.map_cons, List.length_cons, show min 1 ((r.map PyData.int).length + 1) = 1 by omega]
section
variable {P : Program} {w : World} {K : PySem.W.Frag} {mg : Str → Option Value} {base : Heap} {f : Addr} {fd : FuncData} {C : Addr}
theorem fn_okO {x qual : Str} {st : Stmt} {f : Addr} {fd : FuncData} {N ps : List Str} {k n : Nat} {pre : List D → List D → Prop} (F : Fun K x qual st f fd) (S : FnScope N ps (defScope st)) (hn : N.length - ps.length = n) (hl : ∀ ds es, pre ds es → ds.length = ps.length)
    (body : ∀ (cdv : Value) (A : Around) (outer : List PySem.Env) (s : Shared) (H : Hp) (vs : List V) (Q : VK) (E : XK) (B : List Addr) (ds es : List D), Room k (A.deeper (envOfC qual (defScope st) s.heap.objs.size f cdv)) → pre ds es →
      Env K B H (L2.start N vs) H (ds.map Sl.dat ++ List.replicate n .emp) → (∀ l ws H', H l = none → Same H H' → H' l = some (.lst ws) → DpAll K (msk (l :: B) H') ws es → Q (.ref l) H') →
      ∃ t, PSs (cxOf CX0 P w K mg base N qual (defScope st) f cdv A outer s H E).nox (defBody st) t ∧ t { nx := fun _ H' => Q .non H', rt := Q } (L2.start N vs) H) : FnOk P w K mg base CX0 (k + 1) f fd ps (spO K pre) := by
  refine F.ok S (fun vs H Q E h => ?_) (fun cdv A outer s H vs Q E hr h => ?_)
  · obtain ⟨B, ds, es, _, hd, hp, _⟩ := h
    rw [hd.len, hl ds es hp]
  · obtain ⟨B, ds, es, hb, hd, hp, q⟩ := h
    exact body cdv A outer s H vs Q E B ds es hr hp (env_start hb hd (by rw [hd.len, hl ds es hp]; exact hn)) q
abbrev s__law_purse : Stmt := topS 37
abbrev n__law_purse : List Str := ["_law_script", "_law_at", "_law_cell"]
theorem sc__law_purse : FnScope n__law_purse ["_law_script", "_law_at"] (defScope s__law_purse) := ⟨rfl, rfl, rfl, by decide +kernel, rfl, by decide +kernel, by decide +kernel⟩
def pre_purse (ds es : List D) : Prop := ∃ (ns : List Int) (at_ : Int), ds = [.list (ns.map .int), .int at_] ∧ 0 ≤ at_ ∧ at_ ≤ 1 ∧ es = (purseOf ns at_).ds
theorem ok__law_purse (T : Bt mg) (F : Fun K "_law_purse" "_law_purse" s__law_purse f fd) : FnOk P w K mg base CX0 1 f fd ["_law_script", "_law_at"] (spO K pre_purse) := by
  refine fn_okO F sc__law_purse (n := 1) rfl (fun ds r h => ?_) (fun cdv A outer s H vs Q E B ds es hr hp E0 q => ?_)
  · obtain ⟨_, _, rfl, _⟩ := h; rfl
  obtain ⟨ns, a, rfl, a0, a1, rfl⟩ := hp
  refine ⟨_, (pss_cons (ps_set (i := 2) sc__law_purse.nd rfl (by first | exact Or.inl rfl | exact Or.inr rfl) (pe_callTy call_int1 (by rfl) T.b_int boot_int (pa_cons (pe_ifExp (pt_cmpR op_lt (pv 1) (pe_callB (k_len K rfl) (by rfl) T.b_len boot_len (pa_cons (pv 0) pa_nil)) (nomark _)) (pe_ix (k_ix K rfl) (pv 0) (pv 1) (fun _ _ => rfl)) (pe_op op_mod (pe_callB (k_sum K rfl rfl) (by rfl) T.b_sum boot_sum (pa_cons (pe_slice (k_slL K rfl) (pv 0) po_none (po_some pe_int)) pa_nil)) pe_int)) pa_nil)))
      (pss_one (ps_ret (pe_lst (pa_cons (pe_op op_mulW (pe_callTy call_int1 (by rfl) T.b_int boot_int (pa_cons (pe_cmpR op_ge (pv 2) (pe_op op_powW pe_int pe_int) (nomark _)) pa_nil)) (pe_op op_mod (pv 2) (pe_op op_powW (pe_op op_powW pe_int pe_int) pe_int))) (pa_cons (pe_op op_mod (pv 2) pe_int) (pa_cons (pe_op op_mulW pe_int (pv 1)) pa_nil))))))), ?_⟩
  refine q_asg E0 (i := 2) (d := .int (cellOf ns a)) (de_cb (ds := [.int (cellOf ns a)]) (da_cons (de_if (b := decide (a < (ns.length : Int))) (dt_test (de_op (de_var rfl) (DE.is (de_cb (ds := [.list (ns.map .int)]) (da_cons (de_var rfl) da_nil) ca_lenL) (by rw [List.length_map])) od_b0)) (fun hb => ?_) (fun hb => ?_)) da_nil) ca_intI) fun σ1 H1 E1 => ?_
  · unfold cellOf
    rw [if_pos hb]
    have hlt : a.toNat < ns.length := by have := of_decide_eq_true hb; omega
    have := atI_cell (r := ns) hlt
    rw [Int.toNat_of_nonneg a0] at this
    exact de_op (de_var rfl) (de_var rfl) (od_ixL this)
  · unfold cellOf
    rw [if_neg (by rw [hb]; exact Bool.false_ne_true)]
    exact de_op (de_cb (ds := [.list ((ns.take 1).map PyData.int)]) (da_cons (DL.de (DL.is (dl_sl (lo := none) (hi := some 1) (de_var rfl) do_none (do_some de_int)) (cut01 ns))) da_nil) ca_sum) de_int (od_i (by decide))
  have zb : Sz 1 (if decide (cellOf ns a ≥ (10 : Int) ^ (18 : Int).toNat) = true then 1 else 0) := ⟨by split <;> decide⟩
  have zm : Sz 2000 (cellOf ns a % ((10 : Int) ^ (60 : Int).toNat) ^ (10 : Int).toNat) := ⟨by
    have h1 := Int.emod_nonneg (cellOf ns a) (Int.ne_of_gt big_pos)
    have h2 := Int.emod_lt_of_pos (cellOf ns a) big_pos
    have h3 := big_sz
    generalize (2 : Nat) ^ 2000 = m at *
    generalize ((10 : Int) ^ (60 : Int).toNat) ^ (10 : Int).toNat = b at *
    omega⟩
  have z1 : Sz 10 1000 := ⟨by decide⟩
  have za : Sz 10 a := ⟨by omega⟩
  refine s_retL E1 (ds := (purseOf ns a).ds) (dl_lst (da_cons (de_op (de_cb (ds := [.bool (decide (cellOf ns a ≥ (10 : Int) ^ (18 : Int).toNat))]) (da_cons (de_op (de_var rfl) (de_op de_int de_int (od_i (cpow10 (by decide) (by decide)))) od_b0) da_nil) ca_intB) (de_op (de_var rfl) (de_op (de_op de_int de_int (od_i (cpow10 (by decide) (by decide)))) de_int (od_i cpow60)) (od_i big_pos)) (od_i (mulW zb zm (by decide)))) (da_cons (de_op (de_var rfl) de_int (od_i (by decide))) (da_cons (de_op de_int (de_var rfl) (od_i (mulW z1 za (by decide)))) da_nil))) (show 3 ≤ 1000 by decide)) q
end
theorem purse_ok {ns : List Int} {a : Int} (a0 : 0 ≤ a) (a1 : a ≤ 1) : PuOk 1000 (purseOf ns a) := by
  refine ⟨Int.mul_nonneg (by split <;> decide) (Int.emod_nonneg _ (Int.ne_of_gt big_pos)), Int.emod_nonneg _ (by decide), ?_, ?_, ?_⟩
  · have := Int.emod_lt_of_pos (cellOf ns a) (show (0 : Int) < 2147483629 by decide)
    show cellOf ns a % 2147483629 < _
    omega
  · show 0 ≤ 1000 * a; omega
  · show 1000 * a ≤ _; omega
end WS
namespace WS
open PySem PySem.Spec PyProof.Rows L2
local macro_rules | `(tactic| walk_at "num") => `(tactic| first | assumption | exact mulW (by assumption) (by assumption) (by decide))
local macro_rules | `(tactic| walk_at "de") => `(tactic| first
  | exact de_int | exact de_str | exact de_bl | exact de_non | exact de_var rfl | exact da_nil | exact do_none | assumption
  | ((with_reducible apply da_cons) <;> walk_at "de")
  | ((with_reducible apply de_tup) <;> first | walk_at "de" | (simp; done))
  | ((with_reducible apply de_op) <;> walk_at "de")
  | ((with_reducible show DE _ _ (tCB (rIsi _) (tCons _ (tCons (tC (.ty "int")) tNil))) _ _); apply isi_int; walk_at "de")
  | ((with_reducible show DE _ _ (tCB (rIsi _) (tCons _ (tCons (tC (.ty "bool")) tNil))) _ _); apply isi_bool; walk_at "de")
  | ((with_reducible show DE _ _ (tCB (rIsi _) (tCons _ (tCons (tC (.ty "list")) tNil))) _ _); apply isi_list; walk_at "de")
  | ((with_reducible show DE _ _ (tCB (rIsi _) (tCons _ (tCons (tC (.ty "tuple")) tNil))) _ _); apply isi_tup; walk_at "de")
  | ((with_reducible apply de_cb) <;> walk_at "de")
  | ((with_reducible apply de_neg) <;> walk_at "de")
  | ((with_reducible apply dt_test) <;> walk_at "de")
  | ((with_reducible apply dt_B) <;> walk_at "de")
  | ((with_reducible apply dt_not) <;> walk_at "de")
  | ((with_reducible apply de_notV) <;> walk_at "de")
  | ((with_reducible apply do_some) <;> walk_at "de")
  | exact ca_lenL | exact ca_lenT | exact ca_abs | exact ca_intI | exact ca_intB | exact ca_min2
  | exact od_i0 | exact od_b0
  | exact od_ixL rfl | exact od_ixT rfl
  | exact od_ixP0 (by assumption) | exact od_ixP1 (by assumption)
  | (refine od_i ?_; walk_at "num"))

theorem okRun_cols : ∀ {ss : List Stp} {M : Mx}, OkRun ss M → OkCol ss (M.a, M.c) ∧ OkCol ss (M.b, M.d)
  | [], _, _ => ⟨trivial, trivial⟩
  | s :: ss, M, h => by
    have ih := okRun_cols h.2.2
    rw [← stepC_col0, ← stepC_col1] at ih
    exact ⟨⟨h.2.1, ⟨h.1.a, h.1.c⟩, ih.1⟩, ⟨h.2.1, ⟨h.1.b, h.1.d⟩, ih.2⟩⟩
theorem colRun_cols : ∀ (ss : List Stp) (M : Mx), colRun ss (M.a, M.c) = ((runs ss M).a, (runs ss M).c) ∧ colRun ss (M.b, M.d) = ((runs ss M).b, (runs ss M).d)
  | [], _ => ⟨rfl, rfl⟩
  | s :: ss, M => by
    have ih := colRun_cols ss (s.run M)
    rw [← stepC_col0, ← stepC_col1] at ih
    exact ih
theorem liftIx_len : ∀ ss : List Stp, (liftIx ss).length = lifts ss
  | [] => rfl
  | s :: ss => by
    have ih := liftIx_len ss
    unfold liftIx lifts at *
    rw [List.length_cons, List.range_succ_eq_map, List.filter_cons, List.filter_map, List.filter_cons]
    show (if s.isLift = true then _ else _ : List Nat).length = _
    split
    · rw [List.length_cons, List.length_map, List.length_cons]; exact congrArg (· + 1) ih
    · rw [List.length_map]; exact ih
theorem liftIx_mem {ss : List Stp} {i : Nat} (h : i ∈ liftIx ss) : ∃ to w, ss[i]? = some (.lf to w) := by
  have := (List.mem_filter.mp h).2
  split at this
  · next s hs =>
    cases s with
    | lf to w => exact ⟨to, w, hs⟩
    | tn b => cases this
    | sw => cases this
  · cases this
theorem uni_abs {M : Mx} (h : Uni M) {x : Int} : (x * M.det).natAbs = x.natAbs := natAbs_sign h x
theorem kin_ok {M : Mx} (hu : Uni M) (z : SzM 100 M) : ∀ N ∈ kinM M, fw N = fw M ∧ Uni N ∧ SzM 100 N := by
  intro N hN
  have zd : ∀ {x : Int}, Sz 100 x → Sz 100 (x * M.det) := fun h => ⟨by rw [uni_abs hu]; exact h.lt⟩
  have zn : ∀ {x : Int}, Sz 100 x → Sz 100 (0 - x) := fun {x} h => ⟨by rw [show (0 - x).natAbs = x.natAbs by omega]; exact h.lt⟩
  have ud : M.det * M.det = 1 := by rcases hu with h | h <;> rw [h] <;> decide
  simp only [kinM, List.mem_cons, List.not_mem_nil, or_false] at hN
  rcases hN with rfl | rfl | rfl | rfl | rfl | rfl
  · exact ⟨fw_tr hu, by unfold Uni; rw [det_tr]; exact hu, z.a, z.c, z.b, z.d⟩
  · refine ⟨fw_inv hu, ?_, zd z.d, zn (zd z.b), zn (zd z.c), zd z.a⟩
    have e : M.inv.det = M.det * (M.det * M.det) := by unfold Mx.inv Mx.det; grind
    unfold Uni
    rw [e, ud, Int.mul_one]; exact hu
  · exact ⟨fw_swap M, by unfold Uni; rw [det_swap]; unfold Uni at hu; omega, z.c, z.d, z.a, z.b⟩
  · have e : (⟨0 - M.a, 0 - M.b, M.c, M.d⟩ : Mx) = M.turn0 := mx_ext (Int.zero_sub _) (Int.zero_sub _) rfl rfl
    rw [e]
    exact ⟨fw_turn0 M, by unfold Uni; rw [det_turn0]; unfold Uni at hu; omega, z.a.neg, z.b.neg, z.c, z.d⟩
  · have e : (⟨M.a, 0 - M.b, 0 - M.c, M.d⟩ : Mx) = M.turn1.rturn1 := mx_ext rfl (Int.zero_sub _) (Int.zero_sub _) (Int.neg_neg _).symm
    rw [e]
    refine ⟨by rw [fw_rturn1, fw_turn1], ?_, z.a, z.b.neg, z.c.neg, z.d.neg.neg⟩
    have e2 : M.turn1.rturn1.det = M.det := by unfold Mx.turn1 Mx.rturn1 Mx.det; grind
    unfold Uni
    rw [e2]; exact hu
  · refine ⟨fw_rswap M, ?_, z.b, z.a, z.d, z.c⟩
    have e2 : M.rswap.det = -M.det := by unfold Mx.rswap Mx.det; grind
    unfold Uni at hu ⊢
    rw [e2]; omega
theorem eqv_mD (M : Mx) : PyData.eqv (.list (mD M)) (.list (mD M)) = true := by
  unfold mD
  rw [eqv_2, eqv_pL, eqv_pL]; simp
theorem shaped_mD (M : Mx) : SeqAt.shaped (.list (mD M)) = true := shaped_2 (lay_pL _) (lay_pL _) (Nat.le_of_eq (dep_pL _)) (Nat.le_of_eq (dep_pL _)) (by decide)
theorem eqv_mF (M : Mx) : PyData.eqv (.list (mF M)) (.list (mF M)) = true := by
  show ((((M.a == M.a) && (((1 : Int) == 1) && true)) && ((((M.b == M.b) && (((1 : Int) == 1) && true))) && true)) && (((((M.c == M.c) && (((1 : Int) == 1) && true)) && ((((M.d == M.d) && (((1 : Int) == 1) && true))) && true))) && true)) = true
  simp
theorem shaped_mF (M : Mx) : SeqAt.shaped (.list (mF M)) = true := by
  unfold mF
  exact shaped_of (n := 3) (by simp [PyData.canLay0, PyData.canLayAll0]) (by simp [PyData.depth, PyData.depthAll]) (by decide)
theorem eqv_ints : ∀ ns : List Int, PyData.eqv (.list (ns.map .int)) (.list (ns.map .int)) = true
  | [] => rfl
  | n :: ns => by
    have ih := eqv_ints ns
    show ((n == n) && PyData.eqv (.list (ns.map .int)) (.list (ns.map .int))) = true
    rw [ih]; simp
theorem shaped_ints (ns : List Int) : SeqAt.shaped (.list (ns.map .int)) = true := by
  have h1 : ∀ ns : List Int, PyData.canLayAll0 (ns.map .int) = true := fun ns => by
    induction ns with
    | nil => rfl
    | cons n ns ih => simp [PyData.canLayAll0, PyData.canLay0, ih]
  have h2 : PyData.depthAll (ns.map PyData.int) ≤ 0 := dep_map PyData.int 0 (fun x => by simp [PyData.depth]) ns
  exact shaped_of (n := 1) (by simp [PyData.canLay0, h1]) (by simp only [PyData.depth]; omega) (by decide)
theorem eqv_int (n : Int) : PyData.eqv (.int n) (.int n) = true := by
  show (n == n) = true
  simp
section
variable {P : Program} {w : World} {K : PySem.W.Frag} {mg : Str → Option Value} {base : Heap} {f : Addr} {fd : FuncData} {C : Addr}
abbrev s__law_right : Stmt := topS 52
abbrev n__law_right : List Str := ["_law_rows", "_law_due_here", "_law_handed", "_law_told", "_law_mixer", "_law_steps", "_law_lifts", "_law_ends", "_law_row", "_law_some", "_law_at", "_law_step", "_law_unit", "_law_k", "_law_number"]
theorem sc__law_right : FnScope n__law_right ["_law_rows", "_law_due_here"] (defScope s__law_right) := ⟨rfl, rfl, rfl, by decide +kernel, rfl, by decide +kernel, by decide +kernel⟩
def pre_right (ds : List D) (r : D) : Prop := ∃ M : Mx, ds = [.list (mD M), .int (fw M : Nat)] ∧ SzM 100 M ∧ Uni M ∧ r = .bool true
theorem ok__law_right (T : Bt mg) (T2 : Ct K mg C) (F : Fun K "_law_right" "_law_right" s__law_right f fd) (F_fewest_lifts : Fn P w K mg base "fewest_lifts" 5 ["numbers"] (spD K pre_fewest_lifts)) (F_lifts_for : Fn P w K mg base "lifts_for" 7 ["numbers"] (spX K C pre_lifts_for)) (F__law_whole : Fn P w K mg base "_law_whole" 1 ["_law_value"] (spD K pre_law_whole)) (F__law_kin : Fn P w K mg base "_law_kin" 1 ["_law_rows"] (spD K pre_kin)) (T3 : Mt P w K mg base C "steps" 2 ["self"] (spM K C pre_steps)) (T4 : Mt P w K mg base C "wide" 1 ["self"] (spM K C pre_wide)) (F__law_lifts_of : Fn P w K mg base "_law_lifts_of" 1 ["_law_steps"] (spD K pre_lifts_of)) (F__law_played : Fn P w K mg base "_law_played" 2 ["_law_steps", "_law_row"] (spD K pre_played)) (F_matrix : Fn P w K mg base "matrix" 3 ["mixer"] (spM K C pre_matrix)) : FnOk P w K mg base CX0 8 f fd ["_law_rows", "_law_due_here"] (spD K pre_right) := by
  refine fn_ok F sc__law_right (n := 13) rfl (fun ds r h => ?_) (fun cdv A outer s H vs Q E B ds r hr hp E0 q => ?_)
  · obtain ⟨_, rfl, _⟩ := h; rfl
  obtain ⟨M, rfl, zM, hu, rfl⟩ := hp
  obtain ⟨f_steps, fd_steps, m_steps, G_steps, b_steps⟩ := T3.ex
  obtain ⟨f_wide, fd_wide, m_wide, G_wide, b_wide⟩ := T4.ex
  refine ⟨_, (pss_cons (ps_setLc (i := 2) (own := [("_law_row", 8)]) rfl sc__law_right.nd rfl rfl (sw_true rfl rfl rfl (by decide +kernel)) (k_pl K rfl (pv 0)) (blkOk_by (by kernel_rfl)) (fun _ _ _ _ _ => pg_name (i := 8) sc__law_right.nd rfl (by first | exact Or.inl rfl | exact Or.inr rfl)) (fun _ _ _ _ _ => pts_nil) (fun _ _ _ _ _ => (pe_callTy (k_list K rfl) (by rfl) T.b_list boot_list (pa_cons (pv 8) pa_nil))))
      (pss_cons (ps_par (i := 3) (j := 4) rfl sc__law_right.nd rfl rfl (by decide) rfl rfl (pa_cons (pe_fn F_fewest_lifts (hr.mono (by decide)) (by rfl) (pa_cons (pv 2) pa_nil)) (pa_cons (pe_fn F_lifts_for (hr.mono (by decide)) (by rfl) (pa_cons (pv 2) pa_nil)) pa_nil)) rfl)
      (pss_cons (ps_if (PW.pt (pw_or (pt_cmpR (k_ne K rfl hr.units) (pv 3) (pv 1) (nomark _)) (pw_or (pt_not (pt_val (pe_fn F__law_whole (hr.mono (by decide)) (by rfl) (pa_cons (pv 3) pa_nil)))) (pw_or1 (pt_cmpR (k_ne K rfl hr.units) (pv 2) (pv 0) (nomark _)))))) (pss_one (ps_ret pe_bl)) pss_nil)
      (pss_cons (ps_if (pt_cmpR (k_ne K rfl hr.units) (pe_lc (own := [("_law_some", 9)]) rfl sc__law_right.nd (k_pl K rfl (pe_fn F__law_kin (hr.mono (by decide)) (by rfl) (pa_cons (pv 0) pa_nil))) (blkOk_by (by kernel_rfl)) (fun _ _ _ _ _ => pg_name (i := 9) sc__law_right.nd rfl (by first | exact Or.inl rfl | exact Or.inr rfl)) (fun _ _ _ _ _ => pts_nil) (fun _ _ _ _ _ => (pe_fn F_fewest_lifts (hr.mono (by decide)) (by rfl) (pa_cons (pv 9) pa_nil)))) (pe_op op_rep (pe_lst (pa_cons (pv 1) pa_nil)) pe_int) (nomark _)) (pss_one (ps_ret pe_bl)) pss_nil)
      (pss_cons (ps_set (i := 5) sc__law_right.nd rfl (by first | exact Or.inl rfl | exact Or.inr rfl) (pe_meth0 (pv 4) T2.cls m_steps G_steps (hr.mono (by decide)) b_steps .nil pass0))
      (pss_cons (ps_setLc (i := 6) (own := [("_law_at", 10)]) rfl sc__law_right.nd rfl rfl (sw_true rfl rfl rfl (by decide +kernel)) (k_pl K rfl (pe_fn F__law_lifts_of (hr.mono (by decide)) (by rfl) (pa_cons (pv 5) pa_nil))) (blkOk_by (by kernel_rfl)) (fun _ _ _ _ _ => pg_name (i := 10) sc__law_right.nd rfl (by first | exact Or.inl rfl | exact Or.inr rfl)) (fun _ _ _ _ _ => pts_nil) (fun _ _ _ _ _ => (pe_ix (k_ix K rfl) (pv 5) (pv 10) (fun _ _ => rfl))))
      (pss_cons (ps_if (PW.pt (pw_or (pt_cmpR (k_ne K rfl hr.units) (pe_meth0 (pv 4) T2.cls m_wide G_wide (hr.mono (by decide)) b_wide .nil pass0) pe_int (nomark _)) (pw_or (pt_cmpR (k_ne K rfl hr.units) (pe_callB (k_len K rfl) (by rfl) T.b_len boot_len (pa_cons (pv 6) pa_nil)) (pv 1) (nomark _)) (pw_or1 (pt_cmpR (k_ne K rfl hr.units) (pe_lc (own := [("_law_step", 11)]) rfl sc__law_right.nd (k_pl K rfl (pv 6)) (blkOk_by (by kernel_rfl)) (fun _ _ _ _ _ => pg_name (i := 11) sc__law_right.nd rfl (by first | exact Or.inl rfl | exact Or.inr rfl)) (fun _ _ _ _ _ => (pts_one (pt_cmpR (k_ne K rfl hr.units) (pe_ix (k_ix K rfl) (pv 11) pe_int (fun _ _ => rfl)) pe_int (nomark _)))) (fun _ _ _ _ _ => (pv 11))) (pe_lst pa_nil) (nomark _)))))) (pss_one (ps_ret pe_bl)) pss_nil)
      (pss_cons (ps_set (i := 7) sc__law_right.nd rfl (by first | exact Or.inl rfl | exact Or.inr rfl) (pe_lc (own := [("_law_unit", 12)]) rfl sc__law_right.nd (k_pl K rfl (pe_lst (pa_cons (pe_lst (pa_cons pe_int (pa_cons pe_int pa_nil))) (pa_cons (pe_lst (pa_cons pe_int (pa_cons pe_int pa_nil))) pa_nil)))) (blkOk_by (by kernel_rfl)) (fun _ _ _ _ _ => pg_name (i := 12) sc__law_right.nd rfl (by first | exact Or.inl rfl | exact Or.inr rfl)) (fun _ _ _ _ _ => pts_nil) (fun _ _ _ _ _ => (pe_fn F__law_played (hr.mono (by decide)) (by rfl) (pa_cons (pv 5) (pa_cons (pv 12) pa_nil))))))
      (pss_cons (ps_if (pt_cmpR (k_ne K rfl hr.units) (pe_lc (own := [("_law_at", 10)]) rfl sc__law_right.nd (pi_range1 rfl T.b_range (pa_cons pe_int pa_nil)) (blkOk_by (by kernel_rfl)) (fun _ _ _ _ _ => pg_name (i := 10) sc__law_right.nd rfl (by first | exact Or.inl rfl | exact Or.inr rfl)) (fun _ _ _ _ _ => pts_nil) (fun _ _ _ _ _ => (pe_lc (own := [("_law_k", 13)]) rfl sc__law_right.nd (pi_range1 rfl T.b_range (pa_cons pe_int pa_nil)) (blkOk_by (by kernel_rfl)) (fun _ _ _ _ _ => pg_name (i := 13) sc__law_right.nd rfl (by first | exact Or.inl rfl | exact Or.inr rfl)) (fun _ _ _ _ _ => pts_nil) (fun _ _ _ _ _ => (pe_ix (k_ix K rfl) (pe_ix (k_ix K rfl) (pv 7) (pv 13) (fun _ _ => rfl)) (pv 10) (fun _ _ => rfl)))))) (pv 0) (nomark _)) (pss_one (ps_ret pe_bl)) pss_nil)
      (pss_one (ps_ret (pe_cmpR (k_eq K rfl hr.units) (pe_fn F_matrix (hr.mono (by decide)) (by rfl) (pa_cons (pv 4) pa_nil)) (pe_lc (own := [("_law_row", 8)]) rfl sc__law_right.nd (k_pl K rfl (pv 0)) (blkOk_by (by kernel_rfl)) (fun _ _ _ _ _ => pg_name (i := 8) sc__law_right.nd rfl (by first | exact Or.inl rfl | exact Or.inr rfl)) (fun _ _ _ _ _ => pts_nil) (fun _ _ _ _ _ => (pe_lc (own := [("_law_number", 14)]) rfl sc__law_right.nd (k_pl K rfl (pv 8)) (blkOk_by (by kernel_rfl)) (fun _ _ _ _ _ => pg_name (i := 14) sc__law_right.nd rfl (by first | exact Or.inl rfl | exact Or.inr rfl)) (fun _ _ _ _ _ => pts_nil) (fun _ _ _ _ _ => (pe_tup (pa_cons (pv 14) (pa_cons pe_int pa_nil))))))) (nomark _))))))))))))), ?_⟩
  refine q_asg E0 (i := 2) (d := .list (mD M)) (DL.de (DL.is (dl_lc (xs := [(M.a, M.b), (M.c, M.d)]) (enc := pL) _ pL (di_list (ds := mD M) (de_var rfl)).dw (by simp) fun l x hx => ⟨dg_name (by simp), DL.de (dl_listL (de_var rfl))⟩) rfl)) fun σ1 H1 E1 => ?_
  have hu' : dt (M.a, M.b) (M.c, M.d) = 1 ∨ dt (M.a, M.b) (M.c, M.d) = -1 := hu
  have hM : mxOf (M.a, M.b) (M.c, M.d) = M := rfl
  obtain ⟨hruns, hlifts⟩ := liftsFor_ok hu'
  have hok := liftsFor_okRun hu' ⟨zM.a, zM.b⟩ ⟨zM.c, zM.d⟩
  have hlen := liftsFor_len (g := (M.a, M.b)) (h := (M.c, M.d)) ⟨zM.a, zM.b⟩ ⟨zM.c, zM.d⟩
  rw [hM] at hruns hlifts
  refine q_parX E1 (i := 3) (j := 4) (d := .int (fw M : Nat)) (ss := (liftsFor (M.a, M.b) (M.c, M.d)).map stC) (de_call (ds := [.list (mD M)]) (da_cons (de_var rfl) da_nil) ⟨(M.a, M.b), (M.c, M.d), rfl, ⟨zM.a, zM.b, zM.c, zM.d⟩, hu', rfl⟩) (dx_call (ds := [.list (mD M)]) (da_cons (de_var rfl) da_nil) ⟨(M.a, M.b), (M.c, M.d), rfl, ⟨zM.a, zM.b⟩, ⟨zM.c, zM.d⟩, hu', rfl⟩) fun σ2 H2 E2 => ?_
  generalize liftsFor (M.a, M.b) (M.c, M.d) = sts at *
  refine q_ifN E2 ?_ fun H3 E3 => ?_
  · refine dt_or (a := false) (b := false) ((dt_test (de_op (de_var rfl) (de_var rfl) (od_ne (d1 := .int (fw M : Nat)) (d2 := .int (fw M : Nat)) rfl rfl))).is (by rw [eqv_int]; rfl)) fun _ => dt_or (a := false) (b := false) (dt_not (b := true) (dt_B (de_call (ds := [.int (fw M : Nat)]) (da_cons (de_var rfl) da_nil) ⟨_, rfl, rfl⟩))) fun _ => ?_
    exact (dt_test (de_op (de_var rfl) (de_var rfl) (od_ne (shaped_mD M) (shaped_mD M)))).is (by rw [eqv_mD]; rfl)
  refine q_ifN E3 ?_ fun H4 E4 => ?_
  · have e1 : (kinM M).map (fun N => PyData.int (fw N : Nat)) = (List.replicate 6 ((fw M : Nat) : Int)).map PyData.int := by
      rw [List.map_replicate, List.map_congr_left (g := fun _ => PyData.int (fw M : Nat)) fun N hN => by rw [(kin_ok hu zM N hN).1]]
      rfl
    have e2 : (List.replicate (6 : Int).toNat [PyData.int (fw M : Nat)]).flatten = (List.replicate 6 ((fw M : Nat) : Int)).map PyData.int := rfl
    refine (dt_test (de_op (DL.de (DL.is (dl_lc (xs := kinM M) (enc := fun N => .list (mD N)) _ (fun N => .int (fw N : Nat)) (di_list (ds := (kinM M).map fun N => .list (mD N)) (de_call (ds := [.list (mD M)]) (da_cons (de_var rfl) da_nil) ⟨M, rfl, zM, rfl⟩)).dw (show 6 ≤ 10000 by decide) fun l N hN => ⟨dg_name (by simp), ?_⟩) e1)) (DL.de (DL.is (dl_rep (dl_lst (da_cons (de_var rfl) da_nil) (by simp)) (by decide) (by decide) (by simp)) e2)) (od_ne (shaped_ints _) (shaped_ints _)))).is (by rw [eqv_ints]; rfl)
    obtain ⟨k1, k2, k3⟩ := kin_ok hu zM N hN
    exact de_call (ds := [.list (mD N)]) (da_cons (de_var rfl) da_nil) ⟨(N.a, N.b), (N.c, N.d), rfl, ⟨k3.a, k3.b, k3.c, k3.d⟩, k2, rfl⟩
  refine q_asg E4 (i := 5) (d := .list (sts.map stD)) (de_meth rfl rfl ⟨sts, hlen, rfl, rfl⟩) fun σ5 H5 E5 => ?_
  have nth : ∀ i ∈ liftIx sts, ∃ to w, sts[i]? = some (.lf to w) ∧ sts.getD i .sw = .lf to w := fun i hi => by
    obtain ⟨to, w, h⟩ := liftIx_mem hi
    exact ⟨to, w, h, by rw [List.getD_eq_getElem?_getD, h]; rfl⟩
  have ixl : (liftIx sts).length ≤ 1000 := by
    unfold liftIx
    have := List.length_filter_le (fun i => match sts[i]? with | some s => s.isLift | none => false) (List.range sts.length)
    rw [List.length_range] at this
    exact Nat.le_trans this hlen
  refine q_asg E5 (i := 6) (d := .list ((liftIx sts).map fun i => stD (sts.getD i .sw))) (DL.de (dl_lc (xs := liftIx sts) (enc := fun i => .int (i : Nat)) _ (fun i => stD (sts.getD i .sw)) (di_list (ds := (liftIx sts).map fun i => .int (i : Nat)) (de_call (ds := [.list (sts.map stD)]) (da_cons (de_var rfl) da_nil) ⟨sts, hlen, rfl, rfl⟩)).dw (by omega) fun l i hi => ⟨dg_name (by simp), ?_⟩)) fun σ6 H6 E6 => ?_
  · obtain ⟨to, w, h1, h2⟩ := nth i hi
    exact de_op (de_var rfl) (de_var rfl) (od_ixL (atI_nat (by rw [List.getElem?_map, h1, h2]; rfl)))
  refine q_ifN E6 ?_ fun H7 E7 => ?_
  · refine dt_or (a := false) (b := false) ((dt_test (de_op (de_meth (d := .int 2) rfl rfl rfl) de_int (od_ne (d1 := .int 2) (d2 := .int 2) rfl rfl))).is rfl) fun _ => dt_or (a := false) (b := false) ((dt_test (de_op (de_cb (ds := [.list ((liftIx sts).map fun i => stD (sts.getD i .sw))]) (da_cons (de_var rfl) da_nil) ca_lenL) (de_var rfl) (od_ne rfl rfl))).is ?_) fun _ => ?_
    · rw [List.length_map, liftIx_len, hlifts, eqv_int]; rfl
    · refine (dt_test (de_op (DL.de (DL.is (dl_lcF (xs := liftIx sts) (enc := fun i => stD (sts.getD i .sw)) _ (fun _ => false) (fun i => stD (sts.getD i .sw)) (di_list (ds := (liftIx sts).map fun i => stD (sts.getD i .sw)) (de_var rfl)).dw (by omega) fun l i hi => ⟨dg_name (by simp), ?_, fun z => nomatch z⟩) (by simp))) (DL.de (dl_lst da_nil (by simp))) (od_ne shaped_nil shaped_nil))).is (by decide +kernel)
      obtain ⟨to, w, h1, h2⟩ := nth i hi
      rw [h2]
      cases to
      · exact (dt_test (de_op (de_op (de_var rfl) de_int (od_ixT rfl)) de_int (od_ne (d1 := .int 0) (d2 := .int 0) rfl rfl))).is rfl
      · exact (dt_test (de_op (de_op (de_var rfl) de_int (od_ixT rfl)) de_int (od_ne (d1 := .int 0) (d2 := .int 0) rfl rfl))).is rfl
  have cok := okRun_cols hok
  have crun := colRun_cols sts Mx.one
  rw [hruns] at crun
  refine q_asg E7 (i := 7) (d := .list [pL (M.a, M.c), pL (M.b, M.d)]) (DL.de (DL.is (dl_lc (xs := [((1, 0) : Int × Int), (0, 1)]) (enc := pL) _ (fun x => pL (colRun sts x)) (di_list (ds := [pL (1, 0), pL (0, 1)]) (DL.de (dl_lst (da_cons (DL.de (dl_lst (da_cons de_int (da_cons de_int da_nil)) (by simp))) (da_cons (DL.de (dl_lst (da_cons de_int (da_cons de_int da_nil)) (by simp))) da_nil)) (by simp)))).dw (by simp) fun l x hx => ⟨dg_name (by simp), ?_⟩) ?_)) fun σ8 H8 E8 => ?_
  · refine de_call (ds := [.list (sts.map stD), pL x]) (da_cons (de_var rfl) (da_cons (de_var rfl) da_nil)) ⟨sts, x, rfl, ?_, rfl⟩
    simp only [List.mem_cons, List.not_mem_nil, or_false] at hx
    rcases hx with rfl | rfl
    · exact cok.1
    · exact cok.2
  · show [pL (colRun sts (1, 0)), pL (colRun sts (0, 1))] = _
    rw [show colRun sts (1, 0) = (M.a, M.c) from crun.1, show colRun sts (0, 1) = (M.b, M.d) from crun.2]
  refine q_ifN E8 ?_ fun H9 E9 => ?_
  · refine (dt_test (de_op (DL.de (DL.is (dl_lc (xs := [0, 1]) (enc := PyData.int) _ (fun x => pL (colI x (M.a, M.c), colI x (M.b, M.d))) (DI.dw (DI.is (di_rng1 (n := 2) de_int (by decide) (by decide)) rg2)) (by simp) fun l x hx => ⟨dg_name (by simp), ?_⟩) (show _ = mD M from rfl))) (de_var rfl) (od_ne (shaped_mD M) (shaped_mD M)))).is (by rw [eqv_mD]; rfl)
    refine DL.de (DL.is (dl_lc (xs := [0, 1]) (enc := PyData.int) _ (fun k => .int (colI x (if k = 0 then (M.a, M.c) else (M.b, M.d)))) (DI.dw (DI.is (di_rng1 (n := 2) de_int (by decide) (by decide)) rg2)) (by simp) fun l k hk => ⟨dg_name (by simp), ?_⟩) rfl)
    refine de_op (de_op (de_var rfl) (de_var rfl) (od_ixL (d := pL (if k = 0 then (M.a, M.c) else (M.b, M.d))) ?_)) (de_var rfl) (od_ixL (atI_col hx _))
    simp only [List.mem_cons, List.not_mem_nil, or_false] at hk
    rcases hk with rfl | rfl <;> rfl
  refine s_ret E9 (d := .bool true) ((de_op (de_callM (d := .list (mF M)) rfl ⟨sts, hlen, hok, rfl, by rw [hruns]⟩) (DL.de (DL.is (dl_lc (xs := [(M.a, M.b), (M.c, M.d)]) (enc := pL) _ (fun x => .list [.tuple [.int x.1, .int 1], .tuple [.int x.2, .int 1]]) (di_list (ds := mD M) (de_var rfl)).dw (by simp) fun l x hx => ⟨dg_name (by simp), ?_⟩) (show _ = mF M from rfl))) (od_eq (shaped_mF M) (shaped_mF M))).is (by rw [eqv_mF])) fun v H' E10 hv => q v H' E10.ex hv
  refine DL.de (DL.is (dl_lc (xs := [x.1, x.2]) (enc := PyData.int) _ (fun y => .tuple [.int y, .int 1]) (di_list (ds := [.int x.1, .int x.2]) (de_var rfl)).dw (by simp) fun l y hy => ⟨dg_name (by simp), ?_⟩) rfl)
  exact de_tup (da_cons (de_var rfl) (da_cons de_int da_nil)) (by simp)
end
end WS
namespace WS
open PySem PySem.Spec PyProof.Rows L2
local macro_rules | `(tactic| walk_at "num") => `(tactic| first | assumption | exact mulW (by assumption) (by assumption) (by decide))
local macro_rules | `(tactic| walk_at "de") => `(tactic| first
  | exact de_int | exact de_str | exact de_bl | exact de_non | exact de_var rfl | exact da_nil | exact do_none | assumption
  | ((with_reducible apply da_cons) <;> walk_at "de")
  | ((with_reducible apply de_tup) <;> first | walk_at "de" | (simp; done))
  | ((with_reducible apply de_op) <;> walk_at "de")
  | ((with_reducible show DE _ _ (tCB (rIsi _) (tCons _ (tCons (tC (.ty "int")) tNil))) _ _); apply isi_int; walk_at "de")
  | ((with_reducible show DE _ _ (tCB (rIsi _) (tCons _ (tCons (tC (.ty "bool")) tNil))) _ _); apply isi_bool; walk_at "de")
  | ((with_reducible show DE _ _ (tCB (rIsi _) (tCons _ (tCons (tC (.ty "list")) tNil))) _ _); apply isi_list; walk_at "de")
  | ((with_reducible show DE _ _ (tCB (rIsi _) (tCons _ (tCons (tC (.ty "tuple")) tNil))) _ _); apply isi_tup; walk_at "de")
  | ((with_reducible apply de_cb) <;> walk_at "de")
  | ((with_reducible apply de_neg) <;> walk_at "de")
  | ((with_reducible apply dt_test) <;> walk_at "de")
  | ((with_reducible apply dt_B) <;> walk_at "de")
  | ((with_reducible apply dt_not) <;> walk_at "de")
  | ((with_reducible apply de_notV) <;> walk_at "de")
  | ((with_reducible apply do_some) <;> walk_at "de")
  | exact ca_lenL | exact ca_lenT | exact ca_abs | exact ca_intI | exact ca_intB | exact ca_min2
  | exact od_i0 | exact od_b0
  | exact od_ixL rfl | exact od_ixT rfl
  | exact od_ixP0 (by assumption) | exact od_ixP1 (by assumption)
  | (refine od_i ?_; walk_at "num"))

def knownM : List Mx := [⟨0, 1, 1, 0⟩, ⟨1, 3, 0, 1⟩, ⟨2, 1, 1, 1⟩, ⟨5, 2, 2, 1⟩, ⟨3, 4, 2, 3⟩, ⟨-1, 0, 0, 1⟩]
theorem known_fw : knownM.map (fun M => ((fw M : Nat) : Int)) = [0, 1, 2, 2, 3, 0] := by decide +kernel
theorem known_ok : ∀ M ∈ knownM, Uni M ∧ LeM 60 M := by
  intro M h
  simp only [knownM, List.mem_cons, List.not_mem_nil, or_false] at h
  rcases h with rfl | rfl | rfl | rfl | rfl | rfl
  · exact ⟨.inr (by decide), by decide, by decide, by decide, by decide⟩
  · exact ⟨.inl (by decide), by decide, by decide, by decide, by decide⟩
  · exact ⟨.inl (by decide), by decide, by decide, by decide, by decide⟩
  · exact ⟨.inl (by decide), by decide, by decide, by decide, by decide⟩
  · exact ⟨.inl (by decide), by decide, by decide, by decide, by decide⟩
  · exact ⟨.inr (by decide), by decide, by decide, by decide, by decide⟩
def bigM : Mx := ⟨1000000000000000, 1000000000000001, 999999999999999, 1000000000000000⟩
theorem big_fw : fw bigM = 3 := by
  have u1 : ∀ {a b : Int}, b.natAbs = 1 → LI a b = 1 := fun {a b} h => by
    have hb : b = 1 ∨ b = -1 := by omega
    rcases hb with rfl | rfl
    · rw [LI_near (q := a) (t := 0) (by omega) (by decide) (by decide)]; rfl
    · rw [LI_near (q := -a) (t := 0) (by omega) (by decide) (by decide)]; rfl
  have h1 : LI (1000000000000000 : Int) 1000000000000001 = 2 := by
    rw [LI_near (q := 1) (t := -1) (by decide) (by decide) (by decide), u1 (by decide)]
  have h2 : LI (999999999999999 : Int) 1000000000000000 = 2 := by
    rw [LI_near (q := 1) (t := -1) (by decide) (by decide) (by decide), u1 (by decide)]
  have h3 : LI (1000000000000001 : Int) 1000000000000000 = 2 := by
    rw [LI_near (q := 1) (t := 1) (by decide) (by decide) (by decide), u1 (by decide)]
  have h4 : LI (1000000000000000 : Int) 999999999999999 = 2 := by
    rw [LI_near (q := 1) (t := 1) (by decide) (by decide) (by decide), u1 (by decide)]
  unfold fw
  rw [if_neg (by decide)]
  show 1 + m4 (LI (1000000000000000 : Int) 1000000000000001) (LI (999999999999999 : Int) 1000000000000000) (LI (1000000000000001 : Int) 1000000000000000) (LI (1000000000000000 : Int) 999999999999999) = 3
  rw [h1, h2, h3, h4]; rfl
theorem pow15 : (10 : Int) ^ (15 : Int).toNat = 1000000000000000 := by decide +kernel
section
variable {P : Program} {w : World} {K : PySem.W.Frag} {mg : Str → Option Value} {base : Heap} {f : Addr} {fd : FuncData} {C : Addr}
abbrev s_law : Stmt := topS 53
abbrev n_law : List Str := ["_law_script", "_law_table_here", "_law_at", "_law_purse_here", "_law_rows", "_law_many", "_law_known"]
theorem sc_law : FnScope n_law ["_law_script"] (defScope s_law) := ⟨rfl, rfl, rfl, by decide +kernel, rfl, by decide +kernel, by decide +kernel⟩
def pre_law (ds : List D) (r : D) : Prop := ∃ ns : List Int, ds = [.list (ns.map .int)] ∧ r = .bool true
theorem ok_law (T : Bt mg) (F : Fun K "law" "law" s_law f fd) (F__law_table : Fn P w K mg base "_law_table" 1 ["_law_most"] (spD K pre_table)) (F__law_purse : Fn P w K mg base "_law_purse" 1 ["_law_script", "_law_at"] (spO K pre_purse)) (F__law_drawn : Fn P w K mg base "_law_drawn" 4 ["_law_purse_here"] (spP K pre_drawn)) (F__law_due : Fn P w K mg base "_law_due" 2 ["_law_table_here", "_law_rows"] (spD K pre_due)) (F__law_right : Fn P w K mg base "_law_right" 8 ["_law_rows", "_law_due_here"] (spD K pre_right)) (F__law_steep : Fn P w K mg base "_law_steep" 4 ["_law_purse_here"] (spP K pre_steep)) (F_fewest_lifts : Fn P w K mg base "fewest_lifts" 5 ["numbers"] (spD K pre_fewest_lifts)) : FnOk P w K mg base CX0 9 f fd ["_law_script"] (spD K pre_law) := by
  refine fn_ok F sc_law (n := 6) rfl (fun ds r h => ?_) (fun cdv A outer s H vs Q E B ds r hr hp E0 q => ?_)
  · obtain ⟨_, rfl, _⟩ := h; rfl
  obtain ⟨ns, rfl, rfl⟩ := hp
  refine ⟨_, (pss_cons (ps_set (i := 1) sc_law.nd rfl (by first | exact Or.inl rfl | exact Or.inr rfl) (pe_fn F__law_table (hr.mono (by decide)) (by rfl) (pa_cons pe_int pa_nil)))
      (pss_cons (ps_for PassesOwn.never rfl (pi_range1 rfl T.b_range (pa_cons pe_int pa_nil)) (pg_name (i := 2) sc_law.nd rfl (by first | exact Or.inl rfl | exact Or.inr rfl)) (pss_cons (ps_set (i := 3) sc_law.nd rfl (by first | exact Or.inl rfl | exact Or.inr rfl) (pe_fn F__law_purse (hr.mono (by decide)) (by rfl) (pa_cons (pv 0) (pa_cons (pv 2) pa_nil))))
      (pss_cons (ps_set (i := 4) sc_law.nd rfl (by first | exact Or.inl rfl | exact Or.inr rfl) (pe_fn F__law_drawn (hr.mono (by decide)) (by rfl) (pa_cons (pv 3) pa_nil)))
      (pss_cons (ps_if (pt_not (pt_val (pe_fn F__law_right (hr.mono (by decide)) (by rfl) (pa_cons (pv 4) (pa_cons (pe_fn F__law_due (hr.mono (by decide)) (by rfl) (pa_cons (pv 1) (pa_cons (pv 4) pa_nil))) pa_nil))))) (pss_one (ps_ret pe_bl)) pss_nil)
      (pss_cons (ps_asg (pe_fn F__law_steep (hr.mono (by decide)) (by rfl) (pa_cons (pv 3) pa_nil)) (k_gunl K (n := 2) rfl rfl (pgs_cons (pg_name (i := 4) sc_law.nd rfl (by first | exact Or.inl rfl | exact Or.inr rfl)) (pgs_cons (pg_name (i := 5) sc_law.nd rfl (by first | exact Or.inl rfl | exact Or.inr rfl)) pgs_nil))))
      (pss_one (ps_if (pt_not (pt_val (pe_fn F__law_right (hr.mono (by decide)) (by rfl) (pa_cons (pv 4) (pa_cons (pv 5) pa_nil))))) (pss_one (ps_ret pe_bl)) pss_nil)))))))
      (pss_cons (ps_set (i := 6) sc_law.nd rfl (by first | exact Or.inl rfl | exact Or.inr rfl) (pe_lst (pa_cons (pe_lst (pa_cons (pe_lst (pa_cons pe_int (pa_cons pe_int pa_nil))) (pa_cons (pe_lst (pa_cons pe_int (pa_cons pe_int pa_nil))) pa_nil))) (pa_cons (pe_lst (pa_cons (pe_lst (pa_cons pe_int (pa_cons pe_int pa_nil))) (pa_cons (pe_lst (pa_cons pe_int (pa_cons pe_int pa_nil))) pa_nil))) (pa_cons (pe_lst (pa_cons (pe_lst (pa_cons pe_int (pa_cons pe_int pa_nil))) (pa_cons (pe_lst (pa_cons pe_int (pa_cons pe_int pa_nil))) pa_nil))) (pa_cons (pe_lst (pa_cons (pe_lst (pa_cons pe_int (pa_cons pe_int pa_nil))) (pa_cons (pe_lst (pa_cons pe_int (pa_cons pe_int pa_nil))) pa_nil))) (pa_cons (pe_lst (pa_cons (pe_lst (pa_cons pe_int (pa_cons pe_int pa_nil))) (pa_cons (pe_lst (pa_cons pe_int (pa_cons pe_int pa_nil))) pa_nil))) (pa_cons (pe_lst (pa_cons (pe_lst (pa_cons (pe_un un_neg pe_int) (pa_cons pe_int pa_nil))) (pa_cons (pe_lst (pa_cons pe_int (pa_cons pe_int pa_nil))) pa_nil))) pa_nil))))))))
      (pss_cons (ps_if (pt_cmpR (k_ne K rfl hr.units) (pe_lc (own := [("_law_rows", 4)]) rfl sc_law.nd (k_pl K rfl (pv 6)) (blkOk_by (by kernel_rfl)) (fun _ _ _ _ _ => pg_name (i := 4) sc_law.nd rfl (by first | exact Or.inl rfl | exact Or.inr rfl)) (fun _ _ _ _ _ => pts_nil) (fun _ _ _ _ _ => (pe_fn F_fewest_lifts (hr.mono (by decide)) (by rfl) (pa_cons (pv 4) pa_nil)))) (pe_lst (pa_cons pe_int (pa_cons pe_int (pa_cons pe_int (pa_cons pe_int (pa_cons pe_int (pa_cons pe_int pa_nil))))))) (nomark _)) (pss_one (ps_ret pe_bl)) pss_nil)
      (pss_one (ps_ret (pe_cmpR (k_eq K rfl hr.units) (pe_fn F_fewest_lifts (hr.mono (by decide)) (by rfl) (pa_cons (pe_lst (pa_cons (pe_lst (pa_cons (pe_op op_powW pe_int pe_int) (pa_cons (pe_op op_add (pe_op op_powW pe_int pe_int) pe_int) pa_nil))) (pa_cons (pe_lst (pa_cons (pe_op op_sub (pe_op op_powW pe_int pe_int) pe_int) (pa_cons (pe_op op_powW pe_int pe_int) pa_nil))) pa_nil))) pa_nil)) pe_int (nomark _)))))))), ?_⟩
  refine q_asg E0 (i := 1) (d := tabD (tabT 59)) (de_call (ds := [.int 60]) (da_cons de_int da_nil) ⟨rfl, rfl⟩) fun σ1 H1 E1 => ?_
  refine q_forX E1 (vs := [2]) (di_rng1 (n := 2) de_int (by decide) (by decide)) (fun i Γ => ∃ (s2 s3 s4 s5 : Sl), Γ = [.dat (.list (ns.map .int)), .dat (tabD (tabT 59)), s2, s3, s4, s5, .emp]) ⟨_, _, _, _, rfl⟩ (fun i d Γi hd hΓ => ?_) (fun B3 Γ3 σ3 H3 hΓ hs E3 => ?_)
  · obtain ⟨s2, s3, s4, s5, rfl⟩ := hΓ
    obtain ⟨hi, rfl⟩ := rgD_get hd
    have hi : i < 2 := hi
    refine ⟨_, fun B' => dg_name (by simp), fun B' H0' σ' H' hs' E2 N hN X Y Z => ?_⟩
    have a0 : (0 : Int) ≤ 0 + (i : Nat) := by omega
    have a1 : (0 : Int) + (i : Nat) ≤ 1 := by omega
    refine q_asgO E2 (i := 3) (ds := (purseOf ns (0 + (i : Nat))).ds) (dl_callO (ds := [.list (ns.map .int), .int (0 + (i : Nat))]) (da_cons (de_var rfl) (da_cons (de_var rfl) da_nil)) ⟨ns, _, rfl, a0, a1, rfl⟩) fun p σ3 H3 E3 => ?_
    have hu := purse_ok (ns := ns) a0 a1
    generalize purseOf ns (0 + (i : Nat)) = u at *
    generalize (0 : Int) + (i : Nat) = a at *
    have f3 : Pf 3 p (fun u => [.dat (.list (ns.map .int)), .dat (tabD (tabT 59)), .dat (.int a), .own p u.ds, s4, s5, .emp]) := ⟨fun _ => rfl, fun _ _ => rfl⟩
    refine q_asgS f3 (u := u) (j := 4) (n := 0 + 18) (R := fun d => ∃ M : Mx, d = .list (mD M) ∧ Uni M ∧ LeM 60 M) E3 hu (ds_draw f3 (das_pure f3 fun u => da_nil) fun ds hds => ⟨hds, rfl, fun M h1 h2 => ⟨M, rfl, h1, h2⟩⟩) (by omega) fun d u4 σ4 H4 hd4 hu4 E4 => ?_
    obtain ⟨M, rfl, hU, hL⟩ := hd4
    refine q_ifN E4 (dt_not (b := true) (dt_B (de_call (ds := [.list (mD M), .int (fw M : Nat)]) (da_cons (de_var rfl) (da_cons (de_call (ds := [tabD (tabT 59), .list (mD M)]) (da_cons (de_var rfl) (da_cons (de_var rfl) da_nil)) ⟨(M.a, M.b), (M.c, M.d), rfl, ⟨hL.a, hL.b⟩, ⟨hL.c, hL.d⟩, hU, rfl⟩) da_nil)) ⟨M, rfl, hL.sz.mono (by decide), hU, rfl⟩))) fun H5 E5 => ?_
    have f5 : Pf 3 p (fun u => [.dat (.list (ns.map .int)), .dat (tabD (tabT 59)), .dat (.int a), .own p u.ds, .dat (.list (mD M)), s5, .emp]) := ⟨fun _ => rfl, fun _ _ => rfl⟩
    refine q_unlS f5 (u := u4) (n := 0 + 25) (vs := [4, 5]) (R := fun d => ∃ (N : Mx) (m : Nat), d = .list [.list (mD N), .int (m : Nat)] ∧ fw N = m ∧ Uni N ∧ SzM 100 N) E5 hu4 (ds_draw f5 (das_pure f5 fun u => da_nil) fun ds hds => ⟨hds, rfl, fun N m h1 h2 h3 => ⟨N, m, rfl, h1, h2, h3⟩⟩) (by omega) fun d u6 hd6 hu6 => ?_
    obtain ⟨N2, m, rfl, hf, hU2, hz⟩ := hd6
    refine ⟨_, dg_pairL (by simp) (by simp), fun σ6 H6 E6 => ?_⟩
    refine s_ifN E6 (dt_not (b := true) (dt_B (de_call (ds := [.list (mD N2), .int (fw N2 : Nat)]) (da_cons (de_var rfl) (da_cons (by rw [hf]; exact de_var rfl) da_nil)) ⟨N2, rfl, hz, hU2, rfl⟩))) fun H7 E7 => ?_
    exact hN _ _ _ _ ⟨_, _, _, _, rfl⟩ (fun b hb => List.mem_cons_of_mem _ hb) E7
  · obtain ⟨s2, s3, s4, s5, rfl⟩ := hΓ
    have p2 : ∀ {ta tb : TE} {Γ : List Sl} {x y : Int}, DE K B3 ta Γ (.int x) → DE K B3 tb Γ (.int y) → DE K B3 (tLst (tCons ta (tCons tb tNil))) Γ (pL (x, y)) := fun h k => DL.de (dl_lst (da_cons h (da_cons k da_nil)) (by simp))
    have l2 : ∀ {ta tb : TE} {Γ : List Sl} {x y : D}, DE K B3 ta Γ x → DE K B3 tb Γ y → DE K B3 (tLst (tCons ta (tCons tb tNil))) Γ (.list [x, y]) := fun h k => DL.de (dl_lst (da_cons h (da_cons k da_nil)) (by simp))
    refine q_asg E3 (i := 6) (d := .list (knownM.map fun M => .list (mD M))) (DL.de (dl_lst (ds := knownM.map fun M => .list (mD M)) (da_cons (l2 (p2 de_int de_int) (p2 de_int de_int)) (da_cons (l2 (p2 de_int de_int) (p2 de_int de_int)) (da_cons (l2 (p2 de_int de_int) (p2 de_int de_int)) (da_cons (l2 (p2 de_int de_int) (p2 de_int de_int)) (da_cons (l2 (p2 de_int de_int) (p2 de_int de_int)) (da_cons (l2 (p2 (de_neg de_int) de_int) (p2 de_int de_int)) da_nil)))))) (show 6 ≤ 1000 by decide))) fun σ4 H4 E4 => ?_
    refine q_ifN E4 ?_ fun H5 E5 => ?_
    · have e1 : knownM.map (fun M => PyData.int (fw M : Nat)) = ([0, 1, 2, 2, 3, 0] : List Int).map PyData.int := by
        rw [← known_fw, List.map_map]; rfl
      refine (dt_test (de_op (DL.de (DL.is (dl_lc (xs := knownM) (enc := fun M => .list (mD M)) _ (fun M => .int (fw M : Nat)) (di_list (ds := knownM.map fun M => .list (mD M)) (de_var rfl)).dw (show 6 ≤ 10000 by decide) fun l M hM => ⟨dg_name (by simp), ?_⟩) e1)) (DL.de (dl_lst (ds := ([0, 1, 2, 2, 3, 0] : List Int).map PyData.int) (da_cons de_int (da_cons de_int (da_cons de_int (da_cons de_int (da_cons de_int (da_cons de_int da_nil)))))) (show 6 ≤ 1000 by decide))) (od_ne (shaped_ints _) (shaped_ints _)))).is (by rw [eqv_ints]; rfl)
      obtain ⟨hU, hL⟩ := known_ok M hM
      have z := hL.sz.mono (m := 100) (by decide)
      exact de_call (ds := [.list (mD M)]) (da_cons (de_var rfl) da_nil) ⟨(M.a, M.b), (M.c, M.d), rfl, ⟨z.a, z.b, z.c, z.d⟩, hU, rfl⟩
    have t15 : ∀ {Γ : List Sl}, DE K B3 (tOp (rI CPowW fun i j => .int (i ^ j.toNat)) (tC (.int 10)) (tC (.int 15))) Γ (.int 1000000000000000) := DE.is (de_op de_int de_int (od_i (cpow10 (by decide) (by decide)))) (by rw [pow15])
    refine s_ret E5 (d := .bool true) ((de_op (de_call (ds := [.list (mD bigM)]) (d := .int 3) (da_cons (l2 (p2 t15 (de_op t15 de_int od_i0)) (p2 (de_op t15 de_int od_i0) t15)) da_nil) ?_) de_int (od_eq (d1 := .int 3) (d2 := .int 3) rfl rfl)).is rfl) fun v H' E6 hv => q v H' E6.ex (hv.ex (msk_sub hs))
    have z : ∀ {x : Int}, x.natAbs < 2 ^ 60 → Sz 100 x := fun h => Sz.mono (n := 60) ⟨h⟩ (by decide)
    refine ⟨(1000000000000000, 1000000000000001), (999999999999999, 1000000000000000), rfl, ⟨z (by decide), z (by decide), z (by decide), z (by decide)⟩, .inl (by decide), ?_⟩
    show PyData.int 3 = .int (fw bigM : Nat)
    rw [big_fw]; rfl
end
end WS
namespace WS
open PySem PySem.Spec PyProof.Rows L2
/-! ### what the top has written -/
theorem mk_fn {K : PySem.W.Frag} {h : Heap} {mg : Str → Option Value} (X : K.In h) (G : h.Ns mainGlobals mg) (x : Str) (st : Stmt) {f : Addr} {oc kV dc pm cd ct : Value} {od an : Option Addr} {sl : Array (Option Value)} (a : PySem.W.nsIn K mainGlobals x = some (some (.ref f)))
    (l : K.lookup f = some ⟨oc, od, .func (PySem.W.fnOf x x (defArgs st) (defBody st) (defScope st) .none kV dc pm an cd ct), sl⟩) (c : PySem.W.codeIn K cd x = true) (k : PySem.W.keepIn K (.ref f) = true) : ∃ (f : Addr) (fd : FuncData), Fun K x x st f fd ∧ mg x = some (.ref f) := ⟨f, _, fun_mk l c k, PySem.W.mg_of X G a⟩
theorem mk_me {K : PySem.W.Frag} {C : Addr} (m q : Str) (st : Stmt) {f : Addr} {oc kV dc pm cd ct : Value} {od an : Option Addr} {sl : Array (Option Value)} (a : PySem.W.findIn K (.ref C) m = some (some (.ref f))) (i : PySem.W.isFn K (.ref f) = true)
    (l : K.lookup f = some ⟨oc, od, .func (PySem.W.fnOf m q (defArgs st) (defBody st) (defScope st) .none kV dc pm an cd ct), sl⟩) (c : PySem.W.codeIn K cd q = true) (k : PySem.W.keepIn K (.ref f) = true) : ∃ (f : Addr) (fd : FuncData), Meth K C m f ∧ Fun K m q st f fd := ⟨f, _, ⟨a, i, k⟩, fun_mk l c k⟩
theorem mk_bt {K : PySem.W.Frag} {h : Heap} {mg : Str → Option Value} (X : K.In h) (G : h.Ns mainGlobals mg) (z0 : PySem.W.nsIn K mainGlobals "len" = some none) (z1 : PySem.W.nsIn K mainGlobals "int" = some none) (z2 : PySem.W.nsIn K mainGlobals "abs" = some none) (z3 : PySem.W.nsIn K mainGlobals "list" = some none) (z4 : PySem.W.nsIn K mainGlobals "tuple" = some none) (z5 : PySem.W.nsIn K mainGlobals "bool" = some none) (z6 : PySem.W.nsIn K mainGlobals "isinstance" = some none) (z7 : PySem.W.nsIn K mainGlobals "sum" = some none) (z8 : PySem.W.nsIn K mainGlobals "min" = some none) (z9 : PySem.W.nsIn K mainGlobals "max" = some none) (z10 : PySem.W.nsIn K mainGlobals "sorted" = some none) (z11 : PySem.W.nsIn K mainGlobals "zip" = some none) (z12 : PySem.W.nsIn K mainGlobals "enumerate" = some none) (z13 : PySem.W.nsIn K mainGlobals "range" = some none) : Bt mg :=
  ⟨PySem.W.mg_none_of X G z0, PySem.W.mg_none_of X G z1, PySem.W.mg_none_of X G z2, PySem.W.mg_none_of X G z3, PySem.W.mg_none_of X G z4, PySem.W.mg_none_of X G z5, PySem.W.mg_none_of X G z6, PySem.W.mg_none_of X G z7, PySem.W.mg_none_of X G z8, PySem.W.mg_none_of X G z9, PySem.W.mg_none_of X G z10, PySem.W.mg_none_of X G z11, PySem.W.mg_none_of X G z12, PySem.W.mg_none_of X G z13⟩
/-- the class and its methods -/
def Cl (K : PySem.W.Frag) (mg : Str → Option Value) : Prop := ∃ C : Addr, Ct K mg C ∧ PySem.W.makesIn K C = true ∧ PySem.W.keepIn K (.ref C) = true ∧ (∃ (f : Addr) (fd : FuncData), Meth K C "__init__" f ∧ Fun K "__init__" "Mixer.__init__" s_Mixeru_initu f fd) ∧ (∃ (f : Addr) (fd : FuncData), Meth K C "wide" f ∧ Fun K "wide" "Mixer.wide" s_Mixer_wide f fd) ∧ ∃ (f : Addr) (fd : FuncData), Meth K C "steps" f ∧ Fun K "steps" "Mixer.steps" s_Mixer_steps f fd
theorem mk_cl {K : PySem.W.Frag} {h : Heap} {mg : Str → Option Value} {C : Addr} {t : Tok} (X : K.In h) (G : h.Ns mainGlobals mg) (aC : PySem.W.nsIn K mainGlobals "Mixer" = some (some (.ref C)))
    (pg : PySem.W.plainGet K C Str.empty = true) (hd : PySem.W.hasDictIn K C = true) (po : PySem.W.plainOver K C = true) (sa : PySem.W.findIn K (.ref C) "__setattr__" = some (some (.builtin "object.__setattr__"))) (n1 : PySem.W.findIn K (.ref C) "many" = some none) (n2 : PySem.W.findIn K (.ref C) "rows" = some none)
    (aM : PySem.W.nsIn K mainGlobals "MOST_WAYS" = some (some (.int 4 t))) (hc : PySem.W.findIn K (.ref C) "__class__" = some (some (.builtin "object.__class__"))) (hn : PySem.W.specialIn K (.builtin "object.__class__") "__get__" = some (some (.builtin "getset_descriptor.__get__"))) (ht : PySem.W.takesIn K (.builtin "object.__class__") = some true) (hm : PySem.W.mroIn K C (.type "object") = some true)
    (mk : PySem.W.makesIn K C = true) (kc : PySem.W.keepIn K (.ref C) = true) (m1 : ∃ (f : Addr) (fd : FuncData), Meth K C "__init__" f ∧ Fun K "__init__" "Mixer.__init__" s_Mixeru_initu f fd) (m2 : ∃ (f : Addr) (fd : FuncData), Meth K C "wide" f ∧ Fun K "wide" "Mixer.wide" s_Mixer_wide f fd) (m3 : ∃ (f : Addr) (fd : FuncData), Meth K C "steps" f ∧ Fun K "steps" "Mixer.steps" s_Mixer_steps f fd) : Cl K mg :=
  ⟨C, ⟨⟨pg, hd, po, sa⟩, n1, n2, PySem.W.mg_of X G aC, ⟨t, PySem.W.mg_of X G aM⟩, hc, hn, ht, hm⟩, mk, kc, m1, m2, m3⟩
theorem law_sp {K : PySem.W.Frag} {H : Hp} {a : Addr} {ns : List Int} {Q : VK} {E : XK} (hS : SqL K H a (ns.map V.int)) (q : ∀ H', Q (.bl true) H') : spD K pre_law [.ref a] H Q E := by
  have e : msk [] H = H := by funext x; unfold msk; simp
  refine ⟨[], [.list (ns.map .int)], .bool true, fun b hb => (by cases hb), .cons (.lst ?_ (dpa_ints ns)) .nil, ⟨ns, rfl, rfl⟩, fun v H' _ hv => by rw [hv.bl_inv]; exact q H'⟩
  rw [e]; exact hS
theorem all_mk {l : PySem.W.OpenLaw} {w : World} {K : PySem.W.Frag} {mg : Str → Option Value} {fa : Addr} (hfa : mg "law" = some (.ref fa)) (T : Bt mg) (hC : Cl K mg)
    (h_crossed : ∃ (f : Addr) (fd : FuncData), Fun K "crossed" "crossed" s_crossed f fd ∧ mg "crossed" = some (.ref f))
    (h_is_whole : ∃ (f : Addr) (fd : FuncData), Fun K "is_whole" "is_whole" s_is_whole f fd ∧ mg "is_whole" = some (.ref f))
    (h_is_between : ∃ (f : Addr) (fd : FuncData), Fun K "is_between" "is_between" s_is_between f fd ∧ mg "is_between" = some (.ref f))
    (h_are_wholes : ∃ (f : Addr) (fd : FuncData), Fun K "are_wholes" "are_wholes" s_are_wholes f fd ∧ mg "are_wholes" = some (.ref f))
    (h_common_divisor : ∃ (f : Addr) (fd : FuncData), Fun K "common_divisor" "common_divisor" s_common_divisor f fd ∧ mg "common_divisor" = some (.ref f))
    (h_fraction : ∃ (f : Addr) (fd : FuncData), Fun K "fraction" "fraction" s_fraction f fd ∧ mg "fraction" = some (.ref f))
    (h_check_number : ∃ (f : Addr) (fd : FuncData), Fun K "check_number" "check_number" s_check_number f fd ∧ mg "check_number" = some (.ref f))
    (h_placed : ∃ (f : Addr) (fd : FuncData), Fun K "placed" "placed" s_placed f fd ∧ mg "placed" = some (.ref f))
    (h_lift_to : ∃ (f : Addr) (fd : FuncData), Fun K "lift_to" "lift_to" s_lift_to f fd ∧ mg "lift_to" = some (.ref f))
    (h_is_turning : ∃ (f : Addr) (fd : FuncData), Fun K "is_turning" "is_turning" s_is_turning f fd ∧ mg "is_turning" = some (.ref f))
    (h_check_matrix : ∃ (f : Addr) (fd : FuncData), Fun K "check_matrix" "check_matrix" s_check_matrix f fd ∧ mg "check_matrix" = some (.ref f))
    (h_way_to : ∃ (f : Addr) (fd : FuncData), Fun K "way_to" "way_to" s_way_to f fd ∧ mg "way_to" = some (.ref f))
    (h_least_way : ∃ (f : Addr) (fd : FuncData), Fun K "least_way" "least_way" s_least_way f fd ∧ mg "least_way" = some (.ref f))
    (h_fewest_lifts : ∃ (f : Addr) (fd : FuncData), Fun K "fewest_lifts" "fewest_lifts" s_fewest_lifts f fd ∧ mg "fewest_lifts" = some (.ref f))
    (h_is_lift : ∃ (f : Addr) (fd : FuncData), Fun K "is_lift" "is_lift" s_is_lift f fd ∧ mg "is_lift" = some (.ref f))
    (h_is_step : ∃ (f : Addr) (fd : FuncData), Fun K "is_step" "is_step" s_is_step f fd ∧ mg "is_step" = some (.ref f))
    (h_closed : ∃ (f : Addr) (fd : FuncData), Fun K "closed" "closed" s_closed f fd ∧ mg "closed" = some (.ref f))
    (h_opened : ∃ (f : Addr) (fd : FuncData), Fun K "opened" "opened" s_opened f fd ∧ mg "opened" = some (.ref f))
    (h_check_mixer : ∃ (f : Addr) (fd : FuncData), Fun K "check_mixer" "check_mixer" s_check_mixer f fd ∧ mg "check_mixer" = some (.ref f))
    (h_shifts_of : ∃ (f : Addr) (fd : FuncData), Fun K "shifts_of" "shifts_of" s_shifts_of f fd ∧ mg "shifts_of" = some (.ref f))
    (h_summed : ∃ (f : Addr) (fd : FuncData), Fun K "summed" "summed" s_summed f fd ∧ mg "summed" = some (.ref f))
    (h_numbers_of : ∃ (f : Addr) (fd : FuncData), Fun K "numbers_of" "numbers_of" s_numbers_of f fd ∧ mg "numbers_of" = some (.ref f))
    (h_matrix : ∃ (f : Addr) (fd : FuncData), Fun K "matrix" "matrix" s_matrix f fd ∧ mg "matrix" = some (.ref f))
    (h_lifts_for : ∃ (f : Addr) (fd : FuncData), Fun K "lifts_for" "lifts_for" s_lifts_for f fd ∧ mg "lifts_for" = some (.ref f))
    (h__law_stepped : ∃ (f : Addr) (fd : FuncData), Fun K "_law_stepped" "_law_stepped" s__law_stepped f fd ∧ mg "_law_stepped" = some (.ref f))
    (h__law_played : ∃ (f : Addr) (fd : FuncData), Fun K "_law_played" "_law_played" s__law_played f fd ∧ mg "_law_played" = some (.ref f))
    (h__law_whole : ∃ (f : Addr) (fd : FuncData), Fun K "_law_whole" "_law_whole" s__law_whole f fd ∧ mg "_law_whole" = some (.ref f))
    (h__law_lifts_of : ∃ (f : Addr) (fd : FuncData), Fun K "_law_lifts_of" "_law_lifts_of" s__law_lifts_of f fd ∧ mg "_law_lifts_of" = some (.ref f))
    (h__law_table : ∃ (f : Addr) (fd : FuncData), Fun K "_law_table" "_law_table" s__law_table f fd ∧ mg "_law_table" = some (.ref f))
    (h__law_far : ∃ (f : Addr) (fd : FuncData), Fun K "_law_far" "_law_far" s__law_far f fd ∧ mg "_law_far" = some (.ref f))
    (h__law_lifted : ∃ (f : Addr) (fd : FuncData), Fun K "_law_lifted" "_law_lifted" s__law_lifted f fd ∧ mg "_law_lifted" = some (.ref f))
    (h__law_kin : ∃ (f : Addr) (fd : FuncData), Fun K "_law_kin" "_law_kin" s__law_kin f fd ∧ mg "_law_kin" = some (.ref f))
    (h__law_due : ∃ (f : Addr) (fd : FuncData), Fun K "_law_due" "_law_due" s__law_due f fd ∧ mg "_law_due" = some (.ref f))
    (h__law_draw : ∃ (f : Addr) (fd : FuncData), Fun K "_law_draw" "_law_draw" s__law_draw f fd ∧ mg "_law_draw" = some (.ref f))
    (h__law_one_of : ∃ (f : Addr) (fd : FuncData), Fun K "_law_one_of" "_law_one_of" s__law_one_of f fd ∧ mg "_law_one_of" = some (.ref f))
    (h__law_bent : ∃ (f : Addr) (fd : FuncData), Fun K "_law_bent" "_law_bent" s__law_bent f fd ∧ mg "_law_bent" = some (.ref f))
    (h__law_drawn : ∃ (f : Addr) (fd : FuncData), Fun K "_law_drawn" "_law_drawn" s__law_drawn f fd ∧ mg "_law_drawn" = some (.ref f))
    (h__law_steep : ∃ (f : Addr) (fd : FuncData), Fun K "_law_steep" "_law_steep" s__law_steep f fd ∧ mg "_law_steep" = some (.ref f))
    (h__law_purse : ∃ (f : Addr) (fd : FuncData), Fun K "_law_purse" "_law_purse" s__law_purse f fd ∧ mg "_law_purse" = some (.ref f))
    (h__law_right : ∃ (f : Addr) (fd : FuncData), Fun K "_law_right" "_law_right" s__law_right f fd ∧ mg "_law_right" = some (.ref f))
    (h_law : ∃ (f : Addr) (fd : FuncData), Fun K "law" "law" s_law f fd ∧ mg "law" = some (.ref f))
    : ∃ fd : FuncData, (∀ (s : Shared) (v : Value), BindsTo s fd ⟨[v], []⟩ [("_law_script", v)]) ∧ ∀ base : Heap, K.In base → base.Ns mainGlobals mg → FnOk l.prog w K mg base CX0 9 fa fd ["_law_script"] (spD K pre_law) := by
  obtain ⟨C, T2, mk, kc, ⟨fi, fdi, Mi, Fi⟩, ⟨fw_, fdw, Mw, Fw_⟩, ⟨fs, fds, Ms, Fs⟩⟩ := hC
  obtain ⟨f_crossed, d_crossed, F_crossed, g_crossed⟩ := h_crossed
  obtain ⟨f_is_whole, d_is_whole, F_is_whole, g_is_whole⟩ := h_is_whole
  obtain ⟨f_is_between, d_is_between, F_is_between, g_is_between⟩ := h_is_between
  obtain ⟨f_are_wholes, d_are_wholes, F_are_wholes, g_are_wholes⟩ := h_are_wholes
  obtain ⟨f_common_divisor, d_common_divisor, F_common_divisor, g_common_divisor⟩ := h_common_divisor
  obtain ⟨f_fraction, d_fraction, F_fraction, g_fraction⟩ := h_fraction
  obtain ⟨f_check_number, d_check_number, F_check_number, g_check_number⟩ := h_check_number
  obtain ⟨f_placed, d_placed, F_placed, g_placed⟩ := h_placed
  obtain ⟨f_lift_to, d_lift_to, F_lift_to, g_lift_to⟩ := h_lift_to
  obtain ⟨f_is_turning, d_is_turning, F_is_turning, g_is_turning⟩ := h_is_turning
  obtain ⟨f_check_matrix, d_check_matrix, F_check_matrix, g_check_matrix⟩ := h_check_matrix
  obtain ⟨f_way_to, d_way_to, F_way_to, g_way_to⟩ := h_way_to
  obtain ⟨f_least_way, d_least_way, F_least_way, g_least_way⟩ := h_least_way
  obtain ⟨f_fewest_lifts, d_fewest_lifts, F_fewest_lifts, g_fewest_lifts⟩ := h_fewest_lifts
  obtain ⟨f_is_lift, d_is_lift, F_is_lift, g_is_lift⟩ := h_is_lift
  obtain ⟨f_is_step, d_is_step, F_is_step, g_is_step⟩ := h_is_step
  obtain ⟨f_closed, d_closed, F_closed, g_closed⟩ := h_closed
  obtain ⟨f_opened, d_opened, F_opened, g_opened⟩ := h_opened
  obtain ⟨f_check_mixer, d_check_mixer, F_check_mixer, g_check_mixer⟩ := h_check_mixer
  obtain ⟨f_shifts_of, d_shifts_of, F_shifts_of, g_shifts_of⟩ := h_shifts_of
  obtain ⟨f_summed, d_summed, F_summed, g_summed⟩ := h_summed
  obtain ⟨f_numbers_of, d_numbers_of, F_numbers_of, g_numbers_of⟩ := h_numbers_of
  obtain ⟨f_matrix, d_matrix, F_matrix, g_matrix⟩ := h_matrix
  obtain ⟨f_lifts_for, d_lifts_for, F_lifts_for, g_lifts_for⟩ := h_lifts_for
  obtain ⟨f__law_stepped, d__law_stepped, F__law_stepped, g__law_stepped⟩ := h__law_stepped
  obtain ⟨f__law_played, d__law_played, F__law_played, g__law_played⟩ := h__law_played
  obtain ⟨f__law_whole, d__law_whole, F__law_whole, g__law_whole⟩ := h__law_whole
  obtain ⟨f__law_lifts_of, d__law_lifts_of, F__law_lifts_of, g__law_lifts_of⟩ := h__law_lifts_of
  obtain ⟨f__law_table, d__law_table, F__law_table, g__law_table⟩ := h__law_table
  obtain ⟨f__law_far, d__law_far, F__law_far, g__law_far⟩ := h__law_far
  obtain ⟨f__law_lifted, d__law_lifted, F__law_lifted, g__law_lifted⟩ := h__law_lifted
  obtain ⟨f__law_kin, d__law_kin, F__law_kin, g__law_kin⟩ := h__law_kin
  obtain ⟨f__law_due, d__law_due, F__law_due, g__law_due⟩ := h__law_due
  obtain ⟨f__law_draw, d__law_draw, F__law_draw, g__law_draw⟩ := h__law_draw
  obtain ⟨f__law_one_of, d__law_one_of, F__law_one_of, g__law_one_of⟩ := h__law_one_of
  obtain ⟨f__law_bent, d__law_bent, F__law_bent, g__law_bent⟩ := h__law_bent
  obtain ⟨f__law_drawn, d__law_drawn, F__law_drawn, g__law_drawn⟩ := h__law_drawn
  obtain ⟨f__law_steep, d__law_steep, F__law_steep, g__law_steep⟩ := h__law_steep
  obtain ⟨f__law_purse, d__law_purse, F__law_purse, g__law_purse⟩ := h__law_purse
  obtain ⟨f__law_right, d__law_right, F__law_right, g__law_right⟩ := h__law_right
  obtain ⟨f_law, d_law, F_law, g_law⟩ := h_law
  cases hfa.symm.trans g_law
  have Fl := F_law
  obtain ⟨oc, od, kV, dc, pm, an, cd, ct, sl, e, lk, hcd⟩ := F_law.ex
  subst e
  refine ⟨PySem.W.fnOf "law" "law" (defArgs s_law) (defBody s_law) (defScope s_law) .none kV dc pm an cd ct, fun s v => .of_eq rfl, fun base _ _ => ?_⟩
  have K_crossed : Fn l.prog w K mg base "crossed" 1 ["one", "other"] (spD K pre_crossed) := ⟨f_crossed, d_crossed, ok_crossed T F_crossed, g_crossed, F_crossed.kp, F_crossed.binds (ps := ["one", "other"]) fun _ _ _ _ _ _ us hl => match us, hl with | [_, _], _ => rfl⟩
  have K_is_whole : Fn l.prog w K mg base "is_whole" 1 ["value"] (spD K pre_is_whole) := ⟨f_is_whole, d_is_whole, ok_is_whole T F_is_whole, g_is_whole, F_is_whole.kp, F_is_whole.binds (ps := ["value"]) fun _ _ _ _ _ _ us hl => match us, hl with | [_], _ => rfl⟩
  have K_is_between : Fn l.prog w K mg base "is_between" 2 ["value", "low", "high"] (spD K pre_is_between) := ⟨f_is_between, d_is_between, ok_is_between T F_is_between K_is_whole, g_is_between, F_is_between.kp, F_is_between.binds (ps := ["value", "low", "high"]) fun _ _ _ _ _ _ us hl => match us, hl with | [_, _, _], _ => rfl⟩
  have K_are_wholes : Fn l.prog w K mg base "are_wholes" 2 ["value"] (spD K pre_are_wholes) := ⟨f_are_wholes, d_are_wholes, ok_are_wholes T F_are_wholes K_is_whole, g_are_wholes, F_are_wholes.kp, F_are_wholes.binds (ps := ["value"]) fun _ _ _ _ _ _ us hl => match us, hl with | [_], _ => rfl⟩
  have K_common_divisor : Fn l.prog w K mg base "common_divisor" 1 ["one", "other"] (spD K pre_common_divisor) := ⟨f_common_divisor, d_common_divisor, ok_common_divisor T F_common_divisor, g_common_divisor, F_common_divisor.kp, F_common_divisor.binds (ps := ["one", "other"]) fun _ _ _ _ _ _ us hl => match us, hl with | [_, _], _ => rfl⟩
  have K_fraction : Fn l.prog w K mg base "fraction" 2 ["top", "under"] (spD K pre_fraction) := ⟨f_fraction, d_fraction, ok_fraction T F_fraction K_common_divisor, g_fraction, F_fraction.kp, F_fraction.binds (ps := ["top", "under"]) fun _ _ _ _ _ _ us hl => match us, hl with | [_, _], _ => rfl⟩
  have K_check_number : Fn l.prog w K mg base "check_number" 3 ["number", "low", "high"] (spD K pre_check_number) := ⟨f_check_number, d_check_number, ok_check_number T F_check_number K_is_between, g_check_number, F_check_number.kp, F_check_number.binds (ps := ["number", "low", "high"]) fun _ _ _ _ _ _ us hl => match us, hl with | [_, _, _], _ => rfl⟩
  have K_placed : Fn l.prog w K mg base "placed" 1 ["row"] (spD K pre_placed) := ⟨f_placed, d_placed, ok_placed T F_placed, g_placed, F_placed.kp, F_placed.binds (ps := ["row"]) fun _ _ _ _ _ _ us hl => match us, hl with | [_], _ => rfl⟩
  have K_lift_to : Fn l.prog w K mg base "lift_to" 2 ["kept", "gone", "goal"] (spD K pre_lift_to) := ⟨f_lift_to, d_lift_to, ok_lift_to T F_lift_to K_crossed, g_lift_to, F_lift_to.kp, F_lift_to.binds (ps := ["kept", "gone", "goal"]) fun _ _ _ _ _ _ us hl => match us, hl with | [_, _, _], _ => rfl⟩
  have K_is_turning : Fn l.prog w K mg base "is_turning" 3 ["value"] (spD K pre_is_turning) := ⟨f_is_turning, d_is_turning, ok_is_turning T F_is_turning K_are_wholes K_crossed, g_is_turning, F_is_turning.kp, F_is_turning.binds (ps := ["value"]) fun _ _ _ _ _ _ us hl => match us, hl with | [_], _ => rfl⟩
  have K_check_matrix : Fn l.prog w K mg base "check_matrix" 4 ["numbers"] (spD K pre_check_matrix) := ⟨f_check_matrix, d_check_matrix, ok_check_matrix T F_check_matrix K_is_turning, g_check_matrix, F_check_matrix.kp, F_check_matrix.binds (ps := ["numbers"]) fun _ _ _ _ _ _ us hl => match us, hl with | [_], _ => rfl⟩
  have K_way_to : Fn l.prog w K mg base "way_to" 2 ["place"] (spD K pre_way_to) := ⟨f_way_to, d_way_to, ok_way_to T F_way_to K_placed, g_way_to, F_way_to.kp, F_way_to.binds (ps := ["place"]) fun _ _ _ _ _ _ us hl => match us, hl with | [_], _ => rfl⟩
  have K_least_way : Fn l.prog w K mg base "least_way" 3 ["numbers"] (spD K pre_least_way) := ⟨f_least_way, d_least_way, ok_least_way T F_least_way K_placed K_way_to, g_least_way, F_least_way.kp, F_least_way.binds (ps := ["numbers"]) fun _ _ _ _ _ _ us hl => match us, hl with | [_], _ => rfl⟩
  have K_fewest_lifts : Fn l.prog w K mg base "fewest_lifts" 5 ["numbers"] (spD K pre_fewest_lifts) := ⟨f_fewest_lifts, d_fewest_lifts, ok_fewest_lifts T F_fewest_lifts K_check_matrix K_least_way, g_fewest_lifts, F_fewest_lifts.kp, F_fewest_lifts.binds (ps := ["numbers"]) fun _ _ _ _ _ _ us hl => match us, hl with | [_], _ => rfl⟩
  have K_is_lift : Fn l.prog w K mg base "is_lift" 3 ["value", "wide"] (spD K pre_is_lift) := ⟨f_is_lift, d_is_lift, ok_is_lift T F_is_lift K_is_between K_are_wholes, g_is_lift, F_is_lift.kp, F_is_lift.binds (ps := ["value", "wide"]) fun _ _ _ _ _ _ us hl => match us, hl with | [_, _], _ => rfl⟩
  have K_is_step : Fn l.prog w K mg base "is_step" 4 ["value", "wide"] (spD K pre_is_step) := ⟨f_is_step, d_is_step, ok_is_step T F_is_step K_is_between K_is_lift, g_is_step, F_is_step.kp, F_is_step.binds (ps := ["value", "wide"]) fun _ _ _ _ _ _ us hl => match us, hl with | [_, _], _ => rfl⟩
  have K_closed : Fn l.prog w K mg base "closed" 1 ["step"] (spD K pre_closed) := ⟨f_closed, d_closed, ok_closed T F_closed, g_closed, F_closed.kp, F_closed.binds (ps := ["step"]) fun _ _ _ _ _ _ us hl => match us, hl with | [_], _ => rfl⟩
  have K_opened : Fn l.prog w K mg base "opened" 1 ["row"] (spD K pre_opened) := ⟨f_opened, d_opened, ok_opened T F_opened, g_opened, F_opened.kp, F_opened.binds (ps := ["row"]) fun _ _ _ _ _ _ us hl => match us, hl with | [_], _ => rfl⟩
  have T4 : Mt l.prog w K mg base C "wide" 1 ["self"] (spM K C pre_wide) := ⟨fw_, fdw, Mw, ok_Mixer_wide T T2 Fw_, Fw_.binds (ps := ["self"]) fun _ _ _ _ _ _ us hl => match us, hl with | [_], _ => rfl⟩
  have T3 : Mt l.prog w K mg base C "steps" 2 ["self"] (spM K C pre_steps) := ⟨fs, fds, Ms, ok_Mixer_steps T T2 Fs K_opened, Fs.binds (ps := ["self"]) fun _ _ _ _ _ _ us hl => match us, hl with | [_], _ => rfl⟩
  have K_check_mixer : Fn l.prog w K mg base "check_mixer" 1 ["mixer"] (spM K C pre_check_mixer) := ⟨f_check_mixer, d_check_mixer, ok_check_mixer T T2 F_check_mixer, g_check_mixer, F_check_mixer.kp, F_check_mixer.binds (ps := ["mixer"]) fun _ _ _ _ _ _ us hl => match us, hl with | [_], _ => rfl⟩
  have K_shifts_of : Fn l.prog w K mg base "shifts_of" 1 ["rows"] (spD K pre_shifts_of) := ⟨f_shifts_of, d_shifts_of, ok_shifts_of T F_shifts_of, g_shifts_of, F_shifts_of.kp, F_shifts_of.binds (ps := ["rows"]) fun _ _ _ _ _ _ us hl => match us, hl with | [_], _ => rfl⟩
  have K_summed : Fn l.prog w K mg base "summed" 1 ["weights", "numbers"] (spD K pre_summed) := ⟨f_summed, d_summed, ok_summed T F_summed, g_summed, F_summed.kp, F_summed.binds (ps := ["weights", "numbers"]) fun _ _ _ _ _ _ us hl => match us, hl with | [_, _], _ => rfl⟩
  have K_numbers_of : Fn l.prog w K mg base "numbers_of" 2 ["rows", "wide"] (spD K pre_numbers_of) := ⟨f_numbers_of, d_numbers_of, ok_numbers_of T F_numbers_of K_summed, g_numbers_of, F_numbers_of.kp, F_numbers_of.binds (ps := ["rows", "wide"]) fun _ _ _ _ _ _ us hl => match us, hl with | [_, _], _ => rfl⟩
  have K_matrix : Fn l.prog w K mg base "matrix" 3 ["mixer"] (spM K C pre_matrix) := ⟨f_matrix, d_matrix, ok_matrix T T2 F_matrix K_check_mixer K_shifts_of K_numbers_of K_fraction, g_matrix, F_matrix.kp, F_matrix.binds (ps := ["mixer"]) fun _ _ _ _ _ _ us hl => match us, hl with | [_], _ => rfl⟩
  have M_init : Nw l.prog w K mg base C 5 ["self", "wide", "steps"] (spI K C pre_init) := ⟨fi, fdi, ⟨mk, Mi.at_, Mi.fn, kc⟩, ok_Mixer_init T T2 Fi K_check_number K_is_step K_closed, Fi.binds (ps := ["self", "wide", "steps"]) fun _ _ _ _ _ _ us hl => match us, hl with | [_, _, _], _ => rfl⟩
  have K_lifts_for : Fn l.prog w K mg base "lifts_for" 7 ["numbers"] (spX K C pre_lifts_for) := ⟨f_lifts_for, d_lifts_for, ok_lifts_for T T2 F_lifts_for K_check_matrix K_least_way K_placed K_lift_to M_init, g_lifts_for, F_lifts_for.kp, F_lifts_for.binds (ps := ["numbers"]) fun _ _ _ _ _ _ us hl => match us, hl with | [_], _ => rfl⟩
  have K__law_stepped : Fn l.prog w K mg base "_law_stepped" 1 ["_law_step", "_law_row", "_law_way"] (spD K pre_stepped) := ⟨f__law_stepped, d__law_stepped, ok__law_stepped T F__law_stepped, g__law_stepped, F__law_stepped.kp, F__law_stepped.binds (ps := ["_law_step", "_law_row", "_law_way"]) fun _ _ _ _ _ _ us hl => match us, hl with | [_, _, _], _ => rfl⟩
  have K__law_played : Fn l.prog w K mg base "_law_played" 2 ["_law_steps", "_law_row"] (spD K pre_played) := ⟨f__law_played, d__law_played, ok__law_played T F__law_played K__law_stepped, g__law_played, F__law_played.kp, F__law_played.binds (ps := ["_law_steps", "_law_row"]) fun _ _ _ _ _ _ us hl => match us, hl with | [_, _], _ => rfl⟩
  have K__law_whole : Fn l.prog w K mg base "_law_whole" 1 ["_law_value"] (spD K pre_law_whole) := ⟨f__law_whole, d__law_whole, ok__law_whole T F__law_whole, g__law_whole, F__law_whole.kp, F__law_whole.binds (ps := ["_law_value"]) fun _ _ _ _ _ _ us hl => match us, hl with | [_], _ => rfl⟩
  have K__law_lifts_of : Fn l.prog w K mg base "_law_lifts_of" 1 ["_law_steps"] (spD K pre_lifts_of) := ⟨f__law_lifts_of, d__law_lifts_of, ok__law_lifts_of T F__law_lifts_of, g__law_lifts_of, F__law_lifts_of.kp, F__law_lifts_of.binds (ps := ["_law_steps"]) fun _ _ _ _ _ _ us hl => match us, hl with | [_], _ => rfl⟩
  have K__law_table : Fn l.prog w K mg base "_law_table" 1 ["_law_most"] (spD K pre_table) := ⟨f__law_table, d__law_table, ok__law_table T F__law_table, g__law_table, F__law_table.kp, F__law_table.binds (ps := ["_law_most"]) fun _ _ _ _ _ _ us hl => match us, hl with | [_], _ => rfl⟩
  have K__law_far : Fn l.prog w K mg base "_law_far" 1 ["_law_table_here", "_law_over", "_law_under"] (spD K pre_far) := ⟨f__law_far, d__law_far, ok__law_far T F__law_far, g__law_far, F__law_far.kp, F__law_far.binds (ps := ["_law_table_here", "_law_over", "_law_under"]) fun _ _ _ _ _ _ us hl => match us, hl with | [_, _, _], _ => rfl⟩
  have K__law_lifted : Fn l.prog w K mg base "_law_lifted" 1 ["_law_rows", "_law_to", "_law_weight"] (spD K pre_lifted) := ⟨f__law_lifted, d__law_lifted, ok__law_lifted T F__law_lifted, g__law_lifted, F__law_lifted.kp, F__law_lifted.binds (ps := ["_law_rows", "_law_to", "_law_weight"]) fun _ _ _ _ _ _ us hl => match us, hl with | [_, _, _], _ => rfl⟩
  have K__law_kin : Fn l.prog w K mg base "_law_kin" 1 ["_law_rows"] (spD K pre_kin) := ⟨f__law_kin, d__law_kin, ok__law_kin T F__law_kin, g__law_kin, F__law_kin.kp, F__law_kin.binds (ps := ["_law_rows"]) fun _ _ _ _ _ _ us hl => match us, hl with | [_], _ => rfl⟩
  have K__law_due : Fn l.prog w K mg base "_law_due" 2 ["_law_table_here", "_law_rows"] (spD K pre_due) := ⟨f__law_due, d__law_due, ok__law_due T F__law_due K__law_far, g__law_due, F__law_due.kp, F__law_due.binds (ps := ["_law_table_here", "_law_rows"]) fun _ _ _ _ _ _ us hl => match us, hl with | [_, _], _ => rfl⟩
  have K__law_draw : Fn l.prog w K mg base "_law_draw" 1 ["_law_purse_here", "_law_many"] (spP K pre_draw) := ⟨f__law_draw, d__law_draw, ok__law_draw T F__law_draw, g__law_draw, F__law_draw.kp, F__law_draw.binds (ps := ["_law_purse_here", "_law_many"]) fun _ _ _ _ _ _ us hl => match us, hl with | [_, _], _ => rfl⟩
  have K__law_one_of : Fn l.prog w K mg base "_law_one_of" 2 ["_law_purse_here", "_law_some"] (spP K pre_one_of) := ⟨f__law_one_of, d__law_one_of, ok__law_one_of T F__law_one_of K__law_draw, g__law_one_of, F__law_one_of.kp, F__law_one_of.binds (ps := ["_law_purse_here", "_law_some"]) fun _ _ _ _ _ _ us hl => match us, hl with | [_, _], _ => rfl⟩
  have K__law_bent : Fn l.prog w K mg base "_law_bent" 3 ["_law_purse_here", "_law_rows"] (spP K pre_bent) := ⟨f__law_bent, d__law_bent, ok__law_bent T F__law_bent K__law_draw K__law_one_of, g__law_bent, F__law_bent.kp, F__law_bent.binds (ps := ["_law_purse_here", "_law_rows"]) fun _ _ _ _ _ _ us hl => match us, hl with | [_, _], _ => rfl⟩
  have K__law_drawn : Fn l.prog w K mg base "_law_drawn" 4 ["_law_purse_here"] (spP K pre_drawn) := ⟨f__law_drawn, d__law_drawn, ok__law_drawn T F__law_drawn K__law_draw K__law_lifted K__law_bent, g__law_drawn, F__law_drawn.kp, F__law_drawn.binds (ps := ["_law_purse_here"]) fun _ _ _ _ _ _ us hl => match us, hl with | [_], _ => rfl⟩
  have K__law_steep : Fn l.prog w K mg base "_law_steep" 4 ["_law_purse_here"] (spP K pre_steep) := ⟨f__law_steep, d__law_steep, ok__law_steep T F__law_steep K__law_draw K__law_one_of K__law_lifted K__law_bent, g__law_steep, F__law_steep.kp, F__law_steep.binds (ps := ["_law_purse_here"]) fun _ _ _ _ _ _ us hl => match us, hl with | [_], _ => rfl⟩
  have K__law_purse : Fn l.prog w K mg base "_law_purse" 1 ["_law_script", "_law_at"] (spO K pre_purse) := ⟨f__law_purse, d__law_purse, ok__law_purse T F__law_purse, g__law_purse, F__law_purse.kp, F__law_purse.binds (ps := ["_law_script", "_law_at"]) fun _ _ _ _ _ _ us hl => match us, hl with | [_, _], _ => rfl⟩
  have K__law_right : Fn l.prog w K mg base "_law_right" 8 ["_law_rows", "_law_due_here"] (spD K pre_right) := ⟨f__law_right, d__law_right, ok__law_right T T2 F__law_right K_fewest_lifts K_lifts_for K__law_whole K__law_kin T3 T4 K__law_lifts_of K__law_played K_matrix, g__law_right, F__law_right.kp, F__law_right.binds (ps := ["_law_rows", "_law_due_here"]) fun _ _ _ _ _ _ us hl => match us, hl with | [_, _], _ => rfl⟩
  exact ok_law T Fl K__law_table K__law_purse K__law_drawn K__law_due K__law_right K__law_steep K_fewest_lifts
end WS
open PySem PySem.W PyProof.Rows
set_option maxRecDepth 100000 in
set_option maxHeartbeats 0 in
theorem PySem.Challenge.cw_wholesound_k38_whole_fewest_lifts_holds : PySem.Challenge.rw_wholesound_k38_whole_fewest_lifts.Holds := by
  w_on; o_law; k_head; (case hw => w_witness2)
  k_fill
  refine L2.walk_of (l := PySem.Challenge.rw_wholesound_k38_whole_fewest_lifts) (n := 63) (k := 9) (x := "_law_script") (CX := fun _ => L2.CX0) (sp := fun w => WS.spD _ WS.pre_law) rfl (by decide) rfl ⟨rfl, by decide, by decide⟩ (fun w h Y => PySem.W.kIn_of Y) ?F (fun _ _ a ns hl _ hS => WS.law_sp hS fun _ => rfl) (fun _ _ _ _ _ h => h)
  case F =>
    intro w mg fa h KX G hmg
    refine WS.all_mk hmg ?yyT ?yyC ?yyh0 ?yyh1 ?yyh2 ?yyh3 ?yyh4 ?yyh5 ?yyh6 ?yyh7 ?yyh8 ?yyh9 ?yyh10 ?yyh11 ?yyh12 ?yyh13 ?yyh14 ?yyh15 ?yyh16 ?yyh17 ?yyh18 ?yyh19 ?yyh20 ?yyh21 ?yyh22 ?yyh23 ?yyh24 ?yyh25 ?yyh26 ?yyh27 ?yyh28 ?yyh29 ?yyh30 ?yyh31 ?yyh32 ?yyh33 ?yyh34 ?yyh35 ?yyh36 ?yyh37 ?yyh38 ?yyh39 ?yyh40
    case yyT =>
      refine' WS.mk_bt KX G ?yyz0 ?yyz1 ?yyz2 ?yyz3 ?yyz4 ?yyz5 ?yyz6 ?yyz7 ?yyz8 ?yyz9 ?yyz10 ?yyz11 ?yyz12 ?yyz13
      (case yyz0 => k_is); (case yyz1 => k_is); (case yyz2 => k_is); (case yyz3 => k_is); (case yyz4 => k_is); (case yyz5 => k_is); (case yyz6 => k_is); (case yyz7 => k_is); (case yyz8 => k_is); (case yyz9 => k_is); (case yyz10 => k_is); (case yyz11 => k_is); (case yyz12 => k_is); (case yyz13 => k_is)
    case yyC =>
      refine' WS.mk_cl KX G ?yyaC ?yypg ?yyhd ?yypo ?yysa ?yyn1 ?yyn2 ?yyaM ?yyhc ?yyhn ?yyht ?yyhm ?yymk ?yykc ?yym1 ?yym2 ?yym3
      (case yyaC => k_is); (case yypg => k_is); (case yyhd => k_is); (case yypo => k_is); (case yysa => k_is); (case yyn1 => k_is); (case yyn2 => k_is); (case yyaM => k_is); (case yyhc => k_is); (case yyhn => k_is); (case yyht => k_is); (case yyhm => k_is); (case yymk => k_is); (case yykc => k_is)
      case yym1 =>
        refine' WS.mk_me "__init__" "Mixer.__init__" WS.s_Mixeru_initu ?yya ?yyi ?yyl ?yyc ?yyk
        (case yya => k_is); (case yyi => k_is); (case yyl => k_is); (case yyc => k_is); (case yyk => k_is)
      case yym2 =>
        refine' WS.mk_me "wide" "Mixer.wide" WS.s_Mixer_wide ?yya ?yyi ?yyl ?yyc ?yyk
        (case yya => k_is); (case yyi => k_is); (case yyl => k_is); (case yyc => k_is); (case yyk => k_is)
      case yym3 =>
        refine' WS.mk_me "steps" "Mixer.steps" WS.s_Mixer_steps ?yya ?yyi ?yyl ?yyc ?yyk
        (case yya => k_is); (case yyi => k_is); (case yyl => k_is); (case yyc => k_is); (case yyk => k_is)
    case yyh0 =>
      refine' WS.mk_fn KX G "crossed" WS.s_crossed ?yya ?yyl ?yyc ?yyk
      (case yya => k_is); (case yyl => k_is); (case yyc => k_is); (case yyk => k_is)
    case yyh1 =>
      refine' WS.mk_fn KX G "is_whole" WS.s_is_whole ?yya ?yyl ?yyc ?yyk
      (case yya => k_is); (case yyl => k_is); (case yyc => k_is); (case yyk => k_is)
    case yyh2 =>
      refine' WS.mk_fn KX G "is_between" WS.s_is_between ?yya ?yyl ?yyc ?yyk
      (case yya => k_is); (case yyl => k_is); (case yyc => k_is); (case yyk => k_is)
    case yyh3 =>
      refine' WS.mk_fn KX G "are_wholes" WS.s_are_wholes ?yya ?yyl ?yyc ?yyk
      (case yya => k_is); (case yyl => k_is); (case yyc => k_is); (case yyk => k_is)
    case yyh4 =>
      refine' WS.mk_fn KX G "common_divisor" WS.s_common_divisor ?yya ?yyl ?yyc ?yyk
      (case yya => k_is); (case yyl => k_is); (case yyc => k_is); (case yyk => k_is)
    case yyh5 =>
      refine' WS.mk_fn KX G "fraction" WS.s_fraction ?yya ?yyl ?yyc ?yyk
      (case yya => k_is); (case yyl => k_is); (case yyc => k_is); (case yyk => k_is)
    case yyh6 =>
      refine' WS.mk_fn KX G "check_number" WS.s_check_number ?yya ?yyl ?yyc ?yyk
      (case yya => k_is); (case yyl => k_is); (case yyc => k_is); (case yyk => k_is)
    case yyh7 =>
      refine' WS.mk_fn KX G "placed" WS.s_placed ?yya ?yyl ?yyc ?yyk
      (case yya => k_is); (case yyl => k_is); (case yyc => k_is); (case yyk => k_is)
    case yyh8 =>
      refine' WS.mk_fn KX G "lift_to" WS.s_lift_to ?yya ?yyl ?yyc ?yyk
      (case yya => k_is); (case yyl => k_is); (case yyc => k_is); (case yyk => k_is)
    case yyh9 =>
      refine' WS.mk_fn KX G "is_turning" WS.s_is_turning ?yya ?yyl ?yyc ?yyk
      (case yya => k_is); (case yyl => k_is); (case yyc => k_is); (case yyk => k_is)
    case yyh10 =>
      refine' WS.mk_fn KX G "check_matrix" WS.s_check_matrix ?yya ?yyl ?yyc ?yyk
      (case yya => k_is); (case yyl => k_is); (case yyc => k_is); (case yyk => k_is)
    case yyh11 =>
      refine' WS.mk_fn KX G "way_to" WS.s_way_to ?yya ?yyl ?yyc ?yyk
      (case yya => k_is); (case yyl => k_is); (case yyc => k_is); (case yyk => k_is)
    case yyh12 =>
      refine' WS.mk_fn KX G "least_way" WS.s_least_way ?yya ?yyl ?yyc ?yyk
      (case yya => k_is); (case yyl => k_is); (case yyc => k_is); (case yyk => k_is)
    case yyh13 =>
      refine' WS.mk_fn KX G "fewest_lifts" WS.s_fewest_lifts ?yya ?yyl ?yyc ?yyk
      (case yya => k_is); (case yyl => k_is); (case yyc => k_is); (case yyk => k_is)
    case yyh14 =>
      refine' WS.mk_fn KX G "is_lift" WS.s_is_lift ?yya ?yyl ?yyc ?yyk
      (case yya => k_is); (case yyl => k_is); (case yyc => k_is); (case yyk => k_is)
    case yyh15 =>
      refine' WS.mk_fn KX G "is_step" WS.s_is_step ?yya ?yyl ?yyc ?yyk
      (case yya => k_is); (case yyl => k_is); (case yyc => k_is); (case yyk => k_is)
    case yyh16 =>
      refine' WS.mk_fn KX G "closed" WS.s_closed ?yya ?yyl ?yyc ?yyk
      (case yya => k_is); (case yyl => k_is); (case yyc => k_is); (case yyk => k_is)
    case yyh17 =>
      refine' WS.mk_fn KX G "opened" WS.s_opened ?yya ?yyl ?yyc ?yyk
      (case yya => k_is); (case yyl => k_is); (case yyc => k_is); (case yyk => k_is)
    case yyh18 =>
      refine' WS.mk_fn KX G "check_mixer" WS.s_check_mixer ?yya ?yyl ?yyc ?yyk
      (case yya => k_is); (case yyl => k_is); (case yyc => k_is); (case yyk => k_is)
    case yyh19 =>
      refine' WS.mk_fn KX G "shifts_of" WS.s_shifts_of ?yya ?yyl ?yyc ?yyk
      (case yya => k_is); (case yyl => k_is); (case yyc => k_is); (case yyk => k_is)
    case yyh20 =>
      refine' WS.mk_fn KX G "summed" WS.s_summed ?yya ?yyl ?yyc ?yyk
      (case yya => k_is); (case yyl => k_is); (case yyc => k_is); (case yyk => k_is)
    case yyh21 =>
      refine' WS.mk_fn KX G "numbers_of" WS.s_numbers_of ?yya ?yyl ?yyc ?yyk
      (case yya => k_is); (case yyl => k_is); (case yyc => k_is); (case yyk => k_is)
    case yyh22 =>
      refine' WS.mk_fn KX G "matrix" WS.s_matrix ?yya ?yyl ?yyc ?yyk
      (case yya => k_is); (case yyl => k_is); (case yyc => k_is); (case yyk => k_is)
    case yyh23 =>
      refine' WS.mk_fn KX G "lifts_for" WS.s_lifts_for ?yya ?yyl ?yyc ?yyk
      (case yya => k_is); (case yyl => k_is); (case yyc => k_is); (case yyk => k_is)
    case yyh24 =>
      refine' WS.mk_fn KX G "_law_stepped" WS.s__law_stepped ?yya ?yyl ?yyc ?yyk
      (case yya => k_is); (case yyl => k_is); (case yyc => k_is); (case yyk => k_is)
    case yyh25 =>
      refine' WS.mk_fn KX G "_law_played" WS.s__law_played ?yya ?yyl ?yyc ?yyk
      (case yya => k_is); (case yyl => k_is); (case yyc => k_is); (case yyk => k_is)
    case yyh26 =>
      refine' WS.mk_fn KX G "_law_whole" WS.s__law_whole ?yya ?yyl ?yyc ?yyk
      (case yya => k_is); (case yyl => k_is); (case yyc => k_is); (case yyk => k_is)
    case yyh27 =>
      refine' WS.mk_fn KX G "_law_lifts_of" WS.s__law_lifts_of ?yya ?yyl ?yyc ?yyk
      (case yya => k_is); (case yyl => k_is); (case yyc => k_is); (case yyk => k_is)
    case yyh28 =>
      refine' WS.mk_fn KX G "_law_table" WS.s__law_table ?yya ?yyl ?yyc ?yyk
      (case yya => k_is); (case yyl => k_is); (case yyc => k_is); (case yyk => k_is)
    case yyh29 =>
      refine' WS.mk_fn KX G "_law_far" WS.s__law_far ?yya ?yyl ?yyc ?yyk
      (case yya => k_is); (case yyl => k_is); (case yyc => k_is); (case yyk => k_is)
    case yyh30 =>
      refine' WS.mk_fn KX G "_law_lifted" WS.s__law_lifted ?yya ?yyl ?yyc ?yyk
      (case yya => k_is); (case yyl => k_is); (case yyc => k_is); (case yyk => k_is)
    case yyh31 =>
      refine' WS.mk_fn KX G "_law_kin" WS.s__law_kin ?yya ?yyl ?yyc ?yyk
      (case yya => k_is); (case yyl => k_is); (case yyc => k_is); (case yyk => k_is)
    case yyh32 =>
      refine' WS.mk_fn KX G "_law_due" WS.s__law_due ?yya ?yyl ?yyc ?yyk
      (case yya => k_is); (case yyl => k_is); (case yyc => k_is); (case yyk => k_is)
    case yyh33 =>
      refine' WS.mk_fn KX G "_law_draw" WS.s__law_draw ?yya ?yyl ?yyc ?yyk
      (case yya => k_is); (case yyl => k_is); (case yyc => k_is); (case yyk => k_is)
    case yyh34 =>
      refine' WS.mk_fn KX G "_law_one_of" WS.s__law_one_of ?yya ?yyl ?yyc ?yyk
      (case yya => k_is); (case yyl => k_is); (case yyc => k_is); (case yyk => k_is)
    case yyh35 =>
      refine' WS.mk_fn KX G "_law_bent" WS.s__law_bent ?yya ?yyl ?yyc ?yyk
      (case yya => k_is); (case yyl => k_is); (case yyc => k_is); (case yyk => k_is)
    case yyh36 =>
      refine' WS.mk_fn KX G "_law_drawn" WS.s__law_drawn ?yya ?yyl ?yyc ?yyk
      (case yya => k_is); (case yyl => k_is); (case yyc => k_is); (case yyk => k_is)
    case yyh37 =>
      refine' WS.mk_fn KX G "_law_steep" WS.s__law_steep ?yya ?yyl ?yyc ?yyk
      (case yya => k_is); (case yyl => k_is); (case yyc => k_is); (case yyk => k_is)
    case yyh38 =>
      refine' WS.mk_fn KX G "_law_purse" WS.s__law_purse ?yya ?yyl ?yyc ?yyk
      (case yya => k_is); (case yyl => k_is); (case yyc => k_is); (case yyk => k_is)
    case yyh39 =>
      refine' WS.mk_fn KX G "_law_right" WS.s__law_right ?yya ?yyl ?yyc ?yyk
      (case yya => k_is); (case yyl => k_is); (case yyc => k_is); (case yyk => k_is)
    case yyh40 =>
      refine' WS.mk_fn KX G "law" WS.s_law ?yya ?yyl ?yyc ?yyk
      (case yya => k_is); (case yyl => k_is); (case yyc => k_is); (case yyk => k_is)
