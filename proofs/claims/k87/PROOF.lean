import PyProof.Rows.All
import Wide.All
import OpenK.AllK
import Wide.FinOn
import KE.Datum
import KE.DatumMore
import KE.DatumOrd
import HandS.ForMost
import HandS.More
import HandS.Walk
import HandS.Zip
import HandS.TupAny
import HandS.Gcd
import HandS.Wide
import HandS.IsInst
import HandS.Conv
import HandS.TupSets
import HandS.Evl
import KE.DataIsa
import KE.SortData
import HandS.Flow
import HandS.NoneIn
import KE.GoesZip
import KE.GoesMore
import KE.KDictZip
import HandS.Iter
import HandS.Star
import KE.GoesEnum
import PyProof.EnumMake
import HandS.Defaults
import HandS.Codes
import HandS.Words
import HandS.AnyAll
import PySem.Challenge.RW_splitprices_k87_across_barred_supplies
import HandS.Dict
import HandS.Small
import HandS.SetFor
import HandS.Strs
import KE.KStateDown
import Lean
import HandS.Ends
import HandS.WordsExc
import HandS.Head0
import HandS.Head1
import HandS.Head2
import HandS.HeadEnd
import HandS.HeadHook1
import HandS.HeadHook2
set_option Elab.async false
set_option linter.all false
set_option maxRecDepth 100000
set_option maxHeartbeats 2000000
/-! values with a Lean type over the hand layer: what a reading gives, said of Lean values -/
namespace Sp
open PySem PySem.Spec PyProof.Rows L2
open PySem.W (Datum DatumOrd Tup)

/-! ### the frozen part of a heap -/
/-- c: the cells that may change; what is left stands for good -/
def hid (c : Addr → Bool) (H : Hp) : Hp := fun b => if c b = true then none else H b
/-- something stands there, and it is no tuple -/
def Cel (x : Option HO) : Prop := ∃ o, x = some o ∧ ∀ xs, o ≠ .tup xs
theorem Cel.ne {x : Option HO} (h : Cel x) : x ≠ none := by
  obtain ⟨o, rfl, _⟩ := h
  exact fun e => nomatch e
theorem cel_lst {xs : List V} : Cel (some (.lst xs)) := ⟨_, rfl, fun _ e => nomatch e⟩
theorem Cel.of {x : Option HO} {xs : List V} (h : x = some (.lst xs)) : Cel x := h ▸ cel_lst
def Okc (c : Addr → Bool) (H : Hp) : Prop := ∀ b, c b = true → Cel (H b)
theorem hid_le (c : Addr → Bool) (H : Hp) : Same (hid c H) H := fun b o e => by
  unfold hid at e
  split at e
  · cases e
  · exact e
theorem hid_none (H : Hp) : hid (fun _ => false) H = H := by
  funext b
  unfold hid
  simp
theorem _root_.L2.Same.hid {c : Addr → Bool} {H H' : Hp} (s : Same H H') : Same (hid c H) (hid c H') := fun b o e => by
  unfold Sp.hid at e ⊢
  split at e
  · cases e
  · rename_i h
    rw [if_neg h]
    exact s b o e
theorem Okc.mono {c : Addr → Bool} {H H' : Hp} (s : Same H H') (k : Okc c H) : Okc c H' := fun b hb => by
  obtain ⟨o, e, n⟩ := k b hb
  exact ⟨o, s b o e, n⟩
theorem Okc.none (H : Hp) : Okc (fun _ => false) H := fun _ h => by cases h
theorem Okc.new {c : Addr → Bool} {H : Hp} {p : Addr} (k : Okc c H) (n : H p = Option.none) : c p = false := by
  cases q : c p with
  | false => rfl
  | true => exact absurd n (k p q).ne
theorem same_new {H : Hp} {p : Addr} {o : HO} (h : H p = none) : Same H (upd H p o) := fun b x e => by
  rw [upd_ne (ne_of_none e h)]
  exact e
theorem hid_at {c : Addr → Bool} {H : Hp} {p : Addr} (h : c p = false) : hid c H p = H p := by
  unfold hid
  rw [h]
  simp
theorem hid_new {c : Addr → Bool} {H : Hp} {p : Addr} {o : HO} (h : c p = false) : hid c (upd H p o) p = some o := by
  rw [hid_at h, upd_same]

/-! ### data in a heap: lists that the program has made, tuples -/
mutual
inductive Dq (K : PySem.W.Frag) (H : Hp) : V → PyData → Prop
  | non : Dq K H .non .none
  | bl (b : Bool) : Dq K H (.bl b) (.bool b)
  | int (i : Int) : Dq K H (.int i) (.int i)
  | str (x : Str) : Dq K H (.str x) (.str x)
  | lst {a : Addr} {xs : List V} {ds : List PyData} : Rd H a (.lst xs) → DqAll K H xs ds → Dq K H (.ref a) (.list ds)
  | tup {a : Addr} {xs : List V} {ds : List PyData} : H a = some (.tup xs) → DqAll K H xs ds → Dq K H (.ref a) (.tuple ds)
inductive DqAll (K : PySem.W.Frag) (H : Hp) : List V → List PyData → Prop
  | nil : DqAll K H [] []
  | cons {v : V} {vs : List V} {d : PyData} {ds : List PyData} : Dq K H v d → DqAll K H vs ds → DqAll K H (v :: vs) (d :: ds)
end
mutual
theorem Dq.dp {K : PySem.W.Frag} {H : Hp} : ∀ (d : PyData) (v : V), Dq K H v d → Dp K H v d
  | .none, _, h => by cases h; exact .non
  | .bool _, _, h => by cases h; exact .bl _
  | .int _, _, h => by cases h; exact .int _
  | .str _, _, h => by cases h; exact .str _
  | .list ds, _, h => by
    cases h with
    | lst hs ha => exact .lst (.inl hs) (DqAll.dp ds _ ha)
  | .tuple ds, _, h => by
    cases h with
    | tup hs ha => exact .tup (.inl (.inl hs)) (DqAll.dp ds _ ha)
  | .dict _, _, h => by cases h
theorem DqAll.dp {K : PySem.W.Frag} {H : Hp} : ∀ (ds : List PyData) (vs : List V), DqAll K H vs ds → DpAll K H vs ds
  | [], _, h => by cases h; exact .nil
  | d :: ds, _, h => by
    cases h with
    | cons h1 h2 => exact .cons (Dq.dp d _ h1) (DqAll.dp ds _ h2)
end
mutual
theorem dp_mono {K : PySem.W.Frag} {H H' : Hp} (s : Same H H') : ∀ (d : PyData) (v : V), Dq K H v d → Dq K H' v d
  | .none, _, h => by cases h; exact .non
  | .bool _, _, h => by cases h; exact .bl _
  | .int _, _, h => by cases h; exact .int _
  | .str _, _, h => by cases h; exact .str _
  | .list ds, _, h => by
    cases h with
    | lst hs ha => exact .lst (Evl.ex_rd s hs) (dpAll_mono s ds _ ha)
  | .tuple ds, _, h => by
    cases h with
    | tup hs ha => exact .tup (s _ _ hs) (dpAll_mono s ds _ ha)
  | .dict _, _, h => by cases h
theorem dpAll_mono {K : PySem.W.Frag} {H H' : Hp} (s : Same H H') : ∀ (ds : List PyData) (vs : List V), DqAll K H vs ds → DqAll K H' vs ds
  | [], _, h => by cases h; exact .nil
  | d :: ds, _, h => by
    cases h with
    | cons h1 h2 => exact .cons (dp_mono s d _ h1) (dpAll_mono s ds _ h2)
end
theorem DqAll.length {K : PySem.W.Frag} {H : Hp} : ∀ {vs : List V} {ds : List PyData}, DqAll K H vs ds → vs.length = ds.length
  | _, [], h => by cases h; rfl
  | _, _ :: _, h => by
    cases h with
    | cons h1 h2 => simp [DqAll.length h2]
theorem DqAll.get {K : PySem.W.Frag} {H : Hp} : ∀ {vs : List V} {ds : List PyData} {i : Nat} {d : PyData}, DqAll K H vs ds → ds[i]? = some d → ∃ v, vs[i]? = some v ∧ Dq K H v d
  | _, [], _, _, _, e => by simp at e
  | _, _ :: _, 0, _, h, e => by
    cases h with
    | cons h1 h2 =>
      simp at e
      subst e
      exact ⟨_, rfl, h1⟩
  | _, _ :: ds, i + 1, d, h, e => by
    cases h with
    | cons h1 h2 =>
      obtain ⟨v, a, b⟩ := DqAll.get (i := i) (d := d) h2 (by simpa using e)
      exact ⟨v, by simpa using a, b⟩
theorem DqAll.append {K : PySem.W.Frag} {H : Hp} : ∀ {vs ws : List V} {ds es : List PyData}, DqAll K H vs ds → DqAll K H ws es → DqAll K H (vs ++ ws) (ds ++ es)
  | _, _, [], _, h, k => by cases h; exact k
  | _, _, _ :: _, _, h, k => by
    cases h with
    | cons h1 h2 => exact .cons h1 (DqAll.append h2 k)
theorem DqAll.take {K : PySem.W.Frag} {H : Hp} : ∀ {vs : List V} {ds : List PyData} (n : Nat), DqAll K H vs ds → DqAll K H (vs.take n) (ds.take n)
  | _, _, 0, _ => .nil
  | _, [], _ + 1, h => by cases h; exact .nil
  | _, _ :: _, n + 1, h => by
    cases h with
    | cons h1 h2 => exact .cons h1 (DqAll.take n h2)
theorem DqAll.drop {K : PySem.W.Frag} {H : Hp} : ∀ {vs : List V} {ds : List PyData} (n : Nat), DqAll K H vs ds → DqAll K H (vs.drop n) (ds.drop n)
  | _, _, 0, h => h
  | _, [], _ + 1, h => by cases h; exact .nil
  | _, _ :: _, n + 1, h => by
    cases h with
    | cons h1 h2 => exact DqAll.drop n h2
theorem DqAll.set {K : PySem.W.Frag} {H : Hp} {v : V} {d : PyData} (r : Dq K H v d) : ∀ {vs : List V} {ds : List PyData} (n : Nat), DqAll K H vs ds → DqAll K H (vs.set n v) (ds.set n d)
  | _, [], _, h => by cases h; exact .nil
  | _, _ :: _, 0, h => by
    cases h with
    | cons h1 h2 => exact .cons r h2
  | _, _ :: _, n + 1, h => by
    cases h with
    | cons h1 h2 => exact .cons h1 (DqAll.set r n h2)
theorem DqAll.eraseIdx {K : PySem.W.Frag} {H : Hp} : ∀ {vs : List V} {ds : List PyData} (n : Nat), DqAll K H vs ds → DqAll K H (vs.eraseIdx n) (ds.eraseIdx n)
  | _, [], _, h => by cases h; exact .nil
  | _, _ :: _, 0, h => by
    cases h with
    | cons h1 h2 => exact h2
  | _, _ :: _, n + 1, h => by
    cases h with
    | cons h1 h2 => exact .cons h1 (DqAll.eraseIdx n h2)

/-- the value v is x, in F -/
def Rp {α : Type} [DecidableEq α] [Datum α] (K : PySem.W.Frag) (F : Hp) (v : V) (x : α) : Prop := Dq K F v (Datum.toD x)
def Rps {α : Type} [DecidableEq α] [Datum α] (K : PySem.W.Frag) (F : Hp) (vs : List V) (xs : List α) : Prop := DqAll K F vs (xs.map Datum.toD)
section
variable {K : PySem.W.Frag} {F F' : Hp} {α β γ : Type} [DecidableEq α] [Datum α] [DecidableEq β] [Datum β] [DecidableEq γ] [Datum γ]
theorem Rp.mono {v : V} {x : α} (s : Same F F') (h : Rp K F v x) : Rp K F' v x := dp_mono s _ _ h
theorem Rps.mono {vs : List V} {xs : List α} (s : Same F F') (h : Rps K F vs xs) : Rps K F' vs xs := dpAll_mono s _ _ h
theorem rp_int {v : V} {i : Int} (h : Rp K F v i) : v = .int i := by cases (show Dq K F v (.int i) from h); rfl
theorem rp_bool {v : V} {b : Bool} (h : Rp K F v b) : v = .bl b := by cases (show Dq K F v (.bool b) from h); rfl
theorem rp_tup {v : V} {t : Tup α} (h : Rp K F v t) : ∃ a vs, v = .ref a ∧ SqT K F a vs ∧ Rps K F vs t.items := by
  cases (show Dq K F v (.tuple (t.items.map Datum.toD)) from h) with
  | tup hs ha => exact ⟨_, _, rfl, .inl (.inl hs), ha⟩
theorem rp_tupT {v : V} {t : Tup α} (h : Rp K F v t) : ∃ a vs, v = .ref a ∧ F a = some (.tup vs) ∧ Rps K F vs t.items := by
  cases (show Dq K F v (.tuple (t.items.map Datum.toD)) from h) with
  | tup hs ha => exact ⟨_, _, rfl, hs, ha⟩
theorem rp_lst {v : V} {t : List α} (h : Rp K F v t) : ∃ a vs, v = .ref a ∧ Rd F a (.lst vs) ∧ Rps K F vs t := by
  cases (show Dq K F v (.list (t.map Datum.toD)) from h) with
  | lst hs ha => exact ⟨_, _, rfl, hs, ha⟩
theorem rp_pair {v : V} {t : α × β} (h : Rp K F v t) : ∃ a v1 v2, v = .ref a ∧ SqT K F a [v1, v2] ∧ Rp K F v1 t.1 ∧ Rp K F v2 t.2 := by
  cases (show Dq K F v (.tuple [Datum.toD t.1, Datum.toD t.2]) from h) with
  | tup hs ha =>
    cases ha with
    | cons h1 h2 =>
      cases h2 with
      | cons h3 h4 =>
        cases h4
        exact ⟨_, _, _, rfl, .inl (.inl hs), h1, h3⟩
theorem rp_mkI {i : Int} : Rp K F (.int i) i := .int i
theorem rp_mkB {i : Bool} : Rp K F (.bl i) i := .bl i
theorem rp_mkT {a : Addr} {vs : List V} {xs : List α} (h : F a = some (.tup vs)) (r : Rps K F vs xs) : Rp K F (.ref a) (Tup.mk xs) := .tup h r
theorem rp_mkL {a : Addr} {vs : List V} {xs : List α} (h : Rd F a (.lst vs)) (r : Rps K F vs xs) : Rp K F (.ref a) xs := .lst h r
theorem rp_mkP {a : Addr} {v1 v2 : V} {x : α} {y : β} (h : F a = some (.tup [v1, v2])) (r1 : Rp K F v1 x) (r2 : Rp K F v2 y) : Rp K F (.ref a) (x, y) := .tup h (.cons r1 (.cons r2 .nil))
theorem Rps.length {vs : List V} {xs : List α} (h : Rps K F vs xs) : vs.length = xs.length := by
  have := DqAll.length h
  simpa using this
theorem Rps.get {vs : List V} {xs : List α} {i : Nat} {x : α} (h : Rps K F vs xs) (e : xs[i]? = some x) : ∃ v, vs[i]? = some v ∧ Rp K F v x :=
  DqAll.get h (by rw [List.getElem?_map, e]; rfl)
theorem Rps.nil : Rps K F [] ([] : List α) := DqAll.nil
theorem Rps.cons {v : V} {vs : List V} {x : α} {xs : List α} (h : Rp K F v x) (t : Rps K F vs xs) : Rps K F (v :: vs) (x :: xs) := DqAll.cons h t
theorem Rps.append {vs ws : List V} {xs ys : List α} (h : Rps K F vs xs) (k : Rps K F ws ys) : Rps K F (vs ++ ws) (xs ++ ys) := by
  unfold Rps
  rw [List.map_append]
  exact DqAll.append h k
theorem Rps.take {vs : List V} {xs : List α} (n : Nat) (h : Rps K F vs xs) : Rps K F (vs.take n) (xs.take n) := by
  unfold Rps
  rw [List.map_take]
  exact DqAll.take n h
theorem Rps.drop {vs : List V} {xs : List α} (n : Nat) (h : Rps K F vs xs) : Rps K F (vs.drop n) (xs.drop n) := by
  unfold Rps
  rw [List.map_drop]
  exact DqAll.drop n h
theorem Rps.set {v : V} {x : α} {vs : List V} {xs : List α} (n : Nat) (r : Rp K F v x) (h : Rps K F vs xs) : Rps K F (vs.set n v) (xs.set n x) := by
  unfold Rps
  rw [List.map_set]
  exact DqAll.set r n h
theorem Rps.ints : ∀ {vs : List V} {ns : List Int}, Rps K F vs ns → vs = ns.map V.int
  | _, [], h => by cases (show DqAll K F _ [] from h); rfl
  | _, n :: ns, h => by
    cases (show DqAll K F _ (PyData.int n :: ns.map Datum.toD) from h) with
    | cons h1 h2 =>
      rw [List.map_cons, ← Rps.ints h2]
      cases h1
      rfl
theorem Rps.bls : ∀ {vs : List V} {ns : List Bool}, Rps K F vs ns → vs = ns.map V.bl
  | _, [], h => by cases (show DqAll K F _ [] from h); rfl
  | _, n :: ns, h => by
    cases (show DqAll K F _ (PyData.bool n :: ns.map Datum.toD) from h) with
    | cons h1 h2 =>
      rw [List.map_cons, ← Rps.bls h2]
      cases h1
      rfl
theorem Rps.paired : ∀ {vs : List V} {xs : List α}, Rps K F vs xs → Paired (fun v x => Rp K F v x) vs xs
  | _, [], h => by cases (show DqAll K F _ [] from h); exact .nil
  | _, x :: xs, h => by
    cases (show DqAll K F _ (Datum.toD x :: xs.map Datum.toD) from h) with
    | cons h1 h2 => exact .cons h1 (Rps.paired h2)
theorem Rps.of_paired : ∀ {vs : List V} {xs : List α}, Paired (fun v x => Rp K F v x) vs xs → Rps K F vs xs
  | _, _, .nil => Rps.nil
  | _, _, .cons h1 h2 => Rps.cons h1 (Rps.of_paired h2)
theorem rps_ints : ∀ {ns : List Int}, Rps K F (ns.map V.int) ns
  | [] => DqAll.nil
  | n :: ns => DqAll.cons (.int n) rps_ints
end

/-! ### what a reading gives -/
section
variable {α β γ δ : Type} [DecidableEq α] [Datum α] [DecidableEq β] [Datum β] [DecidableEq γ] [Datum γ] [DecidableEq δ] [Datum δ]
/-- the reading t gives x, wherever F stands for good; nothing that stood is changed -/
def Ev (K : PySem.W.Frag) (F : Hp) (t : TE) (σ : L2.St) (x : α) : Prop := ∀ c H, Same F (hid c H) → Okc c H → ∀ Q : VK, (∀ v H', Same H H' → Rp K (hid c H') v x → Q v H') → t σ H Q
def EvT (F : Hp) (t : TT) (σ : L2.St) (b : Bool) : Prop := ∀ c H, Same F (hid c H) → Okc c H → ∀ Q : Bool → Hp → Prop, (∀ H', Same H H' → Q b H') → t σ H Q
end
section
variable {K : PySem.W.Frag} {F F' : Hp} {σ : L2.St} {ta tb te : TE} {tt tu : TT} {α β γ δ : Type} [DecidableEq α] [Datum α] [DecidableEq β] [Datum β] [DecidableEq γ] [Datum γ] [DecidableEq δ] [Datum δ]
theorem Ev.mono {x : α} (s : Same F F') (h : Ev K F te σ x) : Ev K F' te σ x := fun c H a ok Q q => h c H (Same.trans s a) ok Q q
theorem EvT.mono {b : Bool} (s : Same F F') (h : EvT F tt σ b) : EvT F' tt σ b := fun c H a ok Q q => h c H (Same.trans s a) ok Q q
theorem ev_var {i : Nat} {v : V} {x : α} (h : σ[i]? = some (some v)) (r : Rp K F v x) : Ev K F (tVar i) σ x := fun c H a ok Q q => ⟨v, h, q v H (Same.refl H) (r.mono a)⟩
theorem ev_int {i : Int} : Ev K F (tC (.int i)) σ i := fun c H a ok Q q => q _ H (Same.refl H) rp_mkI
theorem ev_bool {i : Bool} : Ev K F (tC (.bl i)) σ i := fun c H a ok Q q => q _ H (Same.refl H) rp_mkB
theorem ev_none : Ev K F (tC .non) σ () := fun c H a ok Q q => q _ H (Same.refl H) .non
theorem ev_str {z : Str} : Ev K F (tC (.str z)) σ z := fun c H a ok Q q => q _ H (Same.refl H) (.str z)
/-- ints -/
theorem ev_i0 {g : Int → Int → Int} {i j : Int} (ha : Ev K F ta σ i) (hb : Ev K F tb σ j) : Ev K F (tOp (rI0 fun i j => .int (g i j)) ta tb) σ (g i j) := fun c H a ok Q q =>
  ha c H a ok _ fun v H1 s1 r1 => hb c H1 (a.trans s1.hid) (ok.mono s1) _ fun w H2 s2 r2 => ⟨i, j, rp_int r1, rp_int r2, q _ H2 (s1.trans s2) rp_mkI⟩
theorem ev_i {C : Int → Int → Prop} {g : Int → Int → Int} {i j : Int} (ha : Ev K F ta σ i) (hb : Ev K F tb σ j) (hc : C i j) : Ev K F (tOp (rI C fun i j => .int (g i j)) ta tb) σ (g i j) := fun c H a ok Q q =>
  ha c H a ok _ fun v H1 s1 r1 => hb c H1 (a.trans s1.hid) (ok.mono s1) _ fun w H2 s2 r2 => ⟨i, j, rp_int r1, rp_int r2, hc, q _ H2 (s1.trans s2) rp_mkI⟩
theorem ev_b0 {g : Int → Int → Bool} {i j : Int} (ha : Ev K F ta σ i) (hb : Ev K F tb σ j) : Ev K F (tOp (rI0 fun i j => .bl (g i j)) ta tb) σ (g i j) := fun c H a ok Q q =>
  ha c H a ok _ fun v H1 s1 r1 => hb c H1 (a.trans s1.hid) (ok.mono s1) _ fun w H2 s2 r2 => ⟨i, j, rp_int r1, rp_int r2, q _ H2 (s1.trans s2) rp_mkB⟩
theorem ev_u {g : Int → Int} {i : Int} (ha : Ev K F ta σ i) : Ev K F (tUn (rU fun i => .int (g i)) ta) σ (g i) := fun c H a ok Q q =>
  ha c H a ok _ fun v H1 s1 r1 => ⟨i, rp_int r1, q _ H1 s1 rp_mkI⟩
/-- tests and truth values -/
theorem et_val {b : Bool} (h : Ev K F te σ b) : EvT F (tB te) σ b := fun c H a ok Q q => h c H a ok _ fun v H1 s1 r1 => ⟨b, rp_bool r1, q H1 s1⟩
theorem et_test {b : Bool} (h : Ev K F te σ b) : EvT F (tTest te) σ b := fun c H a ok Q q => h c H a ok _ fun v H1 s1 r1 => ⟨b, rp_bool r1, q H1 s1⟩
theorem et_not {b : Bool} (h : EvT F tt σ b) : EvT F (tNot tt) σ (!b) := fun c H a ok Q q => h c H a ok _ fun H1 s1 => q H1 s1
theorem et_and {b d : Bool} (h : EvT F tt σ b) (k : b = true → EvT F tu σ d) : EvT F (tAnd tt tu) σ (b && d) := fun c H a ok Q q => h c H a ok _ fun H1 s1 => by
  cases b with
  | false => exact q H1 s1
  | true => exact k rfl c H1 (a.trans s1.hid) (ok.mono s1) Q fun H2 s2 => q H2 (s1.trans s2)
theorem et_or {b d : Bool} (h : EvT F tt σ b) (k : b = false → EvT F tu σ d) : EvT F (tOr tt tu) σ (b || d) := fun c H a ok Q q => h c H a ok _ fun H1 s1 => by
  cases b with
  | true => exact q H1 s1
  | false => exact k rfl c H1 (a.trans s1.hid) (ok.mono s1) Q fun H2 s2 => q H2 (s1.trans s2)
theorem ev_and {b d : Bool} (h : Ev K F ta σ b) (k : b = true → Ev K F tb σ d) : Ev K F (tAndV ta tb) σ (b && d) := fun c H a ok Q q => h c H a ok _ fun v H1 s1 r1 => by
  refine ⟨b, rp_bool r1, ?_⟩
  cases b with
  | false => exact q _ H1 s1 rp_mkB
  | true => exact k rfl c H1 (a.trans s1.hid) (ok.mono s1) Q fun w H2 s2 r2 => q w H2 (s1.trans s2) r2
theorem ev_or {b d : Bool} (h : Ev K F ta σ b) (k : b = false → Ev K F tb σ d) : Ev K F (tOrV ta tb) σ (b || d) := fun c H a ok Q q => h c H a ok _ fun v H1 s1 r1 => by
  refine ⟨b, rp_bool r1, ?_⟩
  cases b with
  | true => exact q _ H1 s1 rp_mkB
  | false => exact k rfl c H1 (a.trans s1.hid) (ok.mono s1) Q fun w H2 s2 r2 => q w H2 (s1.trans s2) r2
theorem ev_not {b : Bool} (h : Ev K F ta σ b) : Ev K F (tNotV ta) σ (!b) := fun c H a ok Q q => h c H a ok _ fun v H1 s1 r1 => ⟨b, rp_bool r1, q _ H1 s1 rp_mkB⟩
theorem ev_if {b : Bool} {x y : α} (h : EvT F tt σ b) (k1 : b = true → Ev K F ta σ x) (k2 : b = false → Ev K F tb σ y) : Ev K F (tIf tt ta tb) σ (if b = true then x else y) := fun c H a ok Q q => h c H a ok _ fun H1 s1 => by
  cases b with
  | true => exact k1 rfl c H1 (a.trans s1.hid) (ok.mono s1) Q fun w H2 s2 r2 => q w H2 (s1.trans s2) r2
  | false => exact k2 rfl c H1 (a.trans s1.hid) (ok.mono s1) Q fun w H2 s2 r2 => q w H2 (s1.trans s2) r2
theorem ev_chain {g g' : Int → Int → Bool} {tc : TE} {i j k : Int} (ha : Ev K F ta σ i) (hb : Ev K F tb σ j) (hc : Ev K F tc σ k) :
    Ev K F (tChain (rI0 fun i j => .bl (g i j)) (rI0 fun i j => .bl (g' i j)) ta tb tc) σ (g i j && g' j k) := fun c H a ok Q q =>
  ha c H a ok _ fun v H1 s1 r1 => hb c H1 (a.trans s1.hid) (ok.mono s1) _ fun w H2 s2 r2 => ⟨i, j, rp_int r1, rp_int r2, g i j, rfl, by
    cases e : g i j with
    | false => exact q _ H2 (s1.trans s2) (by rw [e, Bool.false_and]; exact rp_mkB)
    | true => exact hc c H2 ((a.trans s1.hid).trans s2.hid) ((ok.mono s1).mono s2) _ fun w3 H3 s3 r3 => ⟨j, k, rp_int r2, rp_int r3, q _ H3 ((s1.trans s2).trans s3) (by rw [e, Bool.true_and]; exact rp_mkB)⟩⟩
end
end Sp

set_option Elab.async false
set_option linter.all false
set_option maxRecDepth 100000
set_option maxHeartbeats 2000000
namespace Sp
open PySem PySem.Spec PyProof.Rows L2
open PySem.W (Datum DatumOrd Tup Holds HoldAll)

/-! ### rules over typed data, as readings -/
def rEqX (K : PySem.W.Frag) : R2 := fun x y H Q => ∃ (α : Type) (_ : DecidableEq α) (_ : Datum α) (a b : α), Datum.depth α ≤ 40 ∧ Rp K H x a ∧ Rp K H y b ∧ Q (.bl (decide (a = b))) H
def rNeX (K : PySem.W.Frag) : R2 := fun x y H Q => ∃ (α : Type) (_ : DecidableEq α) (_ : Datum α) (a b : α), Datum.depth α ≤ 40 ∧ Rp K H x a ∧ Rp K H y b ∧ Q (.bl (decide (a ≠ b))) H
def rInX (K : PySem.W.Frag) (neg : Bool) : R2 := fun x y H Q => ∃ (α : Type) (_ : DecidableEq α) (_ : Datum α) (a : α) (b : List α), Datum.depth α ≤ 40 ∧ Rp K H x a ∧ (Rp K H y b ∨ Rp K H y (Tup.mk b)) ∧ Q (.bl (if neg = true then decide (a ∉ b) else decide (a ∈ b))) H
def rLtX (K : PySem.W.Frag) : R2 := fun x y H Q => ∃ (α : Type) (_ : DecidableEq α) (_ : DatumOrd α) (a b : α), Datum.depth α ≤ 40 ∧ Rp K H x a ∧ Rp K H y b ∧ Q (.bl (DatumOrd.lt a b)) H
section
variable {X : Cx} {pins : List (Addr × Obj)} {σ : L2.St} {H : Hp} {s : Shared}
theorem Rp.holds {α : Type} [DecidableEq α] [Datum α] {v : V} {u : Value} {x : α} (I : Inv X pins σ H s) (h : Rp X.K H v x) (r : RelV v u) : Holds s.heap u x := Dp.reads I _ _ _ (Dq.dp _ _ h) r
theorem op_eqX (hu : X.A.units + 64 < cLine) : OpR X (compareOp .Eq) (rEqX X.K) := by
  intro pins s σ H x y v u Q I rx ry h
  obtain ⟨α, _, _, a, b, hd, ra, rb, q⟩ := h
  exact PySem.W.eq_datum (ra.holds I rx) (rb.holds I ry) (by omega) ⟨.bl _, H, I, rfl, q⟩
theorem op_neX (hu : X.A.units + 64 < cLine) : OpR X (compareOp .NotEq) (rNeX X.K) := by
  intro pins s σ H x y v u Q I rx ry h
  obtain ⟨α, _, _, a, b, hd, ra, rb, q⟩ := h
  exact PySem.W.ne_datum (ra.holds I rx) (rb.holds I ry) (by omega) ⟨.bl _, H, I, rfl, q⟩
theorem op_ltX (hu : X.A.units + 64 < cLine) : OpR X (compareOp .Lt) (rLtX X.K) := by
  intro pins s σ H x y v u Q I rx ry h
  obtain ⟨α, _, _, a, b, hd, ra, rb, q⟩ := h
  exact PySem.W.lt_datum (ra.holds I rx) (rb.holds I ry) (by omega) ⟨.bl _, H, I, rfl, q⟩
theorem op_inX (hu : X.A.units + 64 < cLine) : OpR X (compareOp .In) (rInX X.K false) := by
  intro pins s σ H x y v u Q I rx ry h
  obtain ⟨α, _, _, a, b, hd, ra, rb, q⟩ := h
  rcases rb with rb | rb
  · obtain ⟨l, vs, e, hl, ha⟩ := PySem.W.list_of_holds (rb.holds I ry)
    subst e
    exact PySem.W.in_list_datum hl ha (ra.holds I rx) (by omega) ⟨.bl _, H, I, rfl, q⟩
  · obtain ⟨l, vs, e, hl, ha⟩ := PySem.W.tup_of_holds (rb.holds I ry)
    subst e
    exact PySem.W.in_tuple_datum hl ha (ra.holds I rx) (by omega) ⟨.bl _, H, I, rfl, q⟩
theorem op_notInX (hu : X.A.units + 64 < cLine) : OpR X (compareOp .NotIn) (rInX X.K true) := by
  intro pins s σ H x y v u Q I rx ry h
  obtain ⟨α, _, _, a, b, hd, ra, rb, q⟩ := h
  rcases rb with rb | rb
  · obtain ⟨l, vs, e, hl, ha⟩ := PySem.W.list_of_holds (rb.holds I ry)
    subst e
    exact PySem.W.notIn_list_datum hl ha (ra.holds I rx) (by omega) ⟨.bl _, H, I, rfl, q⟩
  · obtain ⟨l, vs, e, hl, ha⟩ := PySem.W.tup_of_holds (rb.holds I ry)
    subst e
    exact PySem.W.notIn_tuple_datum hl ha (ra.holds I rx) (by omega) ⟨.bl _, H, I, rfl, q⟩
/-- isinstance of data -/
def rIsaX (K : PySem.W.Frag) : List V → Hp → VK → Prop := fun xs H Q => ∃ (x : V) (d : PyData), Dq K H x d ∧
  ((xs = [x, .ty "int"] ∧ Q (.bl d.isInt) H) ∨ (xs = [x, .ty "bool"] ∧ Q (.bl d.isBool) H) ∨ (xs = [x, .ty "tuple"] ∧ Q (.bl d.isTuple) H) ∨ (xs = [x, .ty "list"] ∧ Q (.bl d.isList) H) ∨ (xs = [x, .ty "str"] ∧ Q (.bl d.isStr) H))
theorem vals_xt {x : V} {n : String} {us : List Value} (r : Vals [x, .ty n] us) : ∃ u, us = [u, Value.type n] ∧ RelV x u := by
  obtain ⟨u, v, rfl, h1, h2⟩ := r.two
  cases h2
  exact ⟨u, rfl, h1⟩
theorem cr_isaX : CallR X (.builtin "isinstance") (rIsaX X.K) := by
  intro pins s σ H xs us Q I r h
  obtain ⟨x, d, hd, h⟩ := h
  rcases h with ⟨rfl, q⟩ | ⟨rfl, q⟩ | ⟨rfl, q⟩ | ⟨rfl, q⟩ | ⟨rfl, q⟩ <;> obtain ⟨u, rfl, ru⟩ := vals_xt r <;> obtain ⟨as, rd⟩ := Dp.reads I d x u (Dq.dp _ _ hd) ru
  · exact PySem.W.isinstance_int_data rd fun tk htk => ⟨.bl _, H, I.tok tk, rfl, q⟩
  · exact PySem.W.isinstance_bool_data rd fun tk htk => ⟨.bl _, H, I.tok tk, rfl, q⟩
  · exact PySem.W.isinstance_tuple_data rd fun tk htk => ⟨.bl _, H, I.tok tk, rfl, q⟩
  · exact PySem.W.isinstance_list_data rd fun tk htk => ⟨.bl _, H, I.tok tk, rfl, q⟩
  · exact PySem.W.isinstance_str_data rd fun tk htk => ⟨.bl _, H, I.tok tk, rfl, q⟩
end
end Sp

set_option Elab.async false
set_option linter.all false
set_option maxRecDepth 100000
set_option maxHeartbeats 2000000
namespace Sp
open PySem PySem.Spec PyProof.Rows L2
open PySem.W (Datum DatumOrd Tup Holds HoldAll)

/-! ### built-ins over lists and tuples -/
abbrev SqLT (K : PySem.W.Frag) (H : Hp) (a : Addr) (xs : List V) : Prop := SqL K H a xs ∨ SqT K H a xs
section
variable {prog : Program} {w : World} {A : Around} {E : Value → Shared → Prop} {s : Shared} {l : Addr} {its : List Value} {ns : List Int} {Q : Value → Shared → Prop}
theorem old_keptT {h' : Heap} (hk : ∀ b o, b ∉ [s.heap.objs.size] → (s.heap.push { cls := .type "tuple_iterator", data := .fields #[.ref l, .int 0 0] }).get? b = some o → h'.get? b = some o) :
    ∀ b o, s.heap.get? b = some o → h'.get? b = some o := fun b o e => by
  refine hk b o (fun hm => ?_) (Heap.get?_push_of_some _ e)
  rcases List.mem_cons.mp hm with e1 | hm
  · exact absurd (e1 ▸ Heap.lt_size e) (Nat.lt_irrefl _)
  · cases hm
theorem sum_rawT (hh : A.handled = none) (hl : s.heap.IsTuple l its.toArray) (hi : IntsAre its ns)
    (h : ∀ h' tk t', (∀ b o, s.heap.get? b = some o → h'.get? b = some o) → Q (.int ns.sum t') { s with heap := h', toks := tk }) : wpAny (model prog w) A (call (.builtin "sum") [.ref l]) Q E s := by
  obtain ⟨xs, e⟩ := hi.allInts.items
  have hn : numsOf (intItems xs).toList = ns := by rw [← e]; exact hi.numsOf
  rw [nums_intItems] at hn
  rw [e] at hl
  have hlt : l < s.heap.objs.size := by obtain ⟨_, e, _⟩ := hl; exact Heap.lt_size e
  refine PySem.call_sum_walkG (wpAny_pyIter_tuple hl ?_)
  refine ⟨_, _, _, _, _, _, numAt xs, rfl, Walks.tuple (A := A.in1) hh _ l (Nat.ne_of_lt hlt) (intItems xs), ⟨⟨_, Heap.get?_push_size _ rfl, rfl, rfl⟩, hl.push _⟩, fun b hb => ?_, (fun _ _ => intItems_at), fun h' tk t' hk => ?_⟩
  · show b < (s.heap.push _).objs.size
    rw [Heap.size_push]
    rcases List.mem_cons.mp hb with rfl | hb
    · exact Nat.lt_succ_self _
    · rcases List.mem_cons.mp hb with rfl | hb
      · exact Nat.lt_succ_of_lt hlt
      · cases hb
  · have := h h' tk t' (old_keptT hk)
    rw [preSum_eq, List.take_of_length_le (by simp [intItems]), hn]
    exact this
end
theorem maxOf_mem : ∀ (x : Int) (xs : List Int), PySem.W.maxOf x xs ∈ x :: xs := fun x xs => by
  unfold PySem.W.maxOf
  induction xs generalizing x with
  | nil => simp
  | cons y ys ih =>
    rw [List.foldl_cons]
    by_cases hc : DatumOrd.lt x y = true
    · rw [if_pos hc]
      have := ih y
      simp only [List.mem_cons] at this ⊢
      rcases this with h | h
      · exact .inr (.inl h)
      · exact .inr (.inr h)
    · rw [if_neg hc]
      have := ih x
      simp only [List.mem_cons] at this ⊢
      rcases this with h | h
      · exact .inl h
      · exact .inr (.inr h)
theorem maxOf_ge : ∀ (x : Int) (xs : List Int), ∀ y ∈ x :: xs, y ≤ PySem.W.maxOf x xs := fun x xs => by
  unfold PySem.W.maxOf
  induction xs generalizing x with
  | nil => simp
  | cons y ys ih =>
    intro z hz
    rw [List.foldl_cons]
    by_cases hc : DatumOrd.lt x y = true
    · rw [if_pos hc]
      have hlt : x < y := of_decide_eq_true hc
      have h1 := ih y y (by simp)
      simp only [List.mem_cons] at hz
      rcases hz with rfl | rfl | hz
      · omega
      · exact h1
      · exact ih y z (by simp [hz])
    · rw [if_neg hc]
      have hlt : ¬ x < y := fun h => hc (decide_eq_true h)
      have h1 := ih x x (by simp)
      simp only [List.mem_cons] at hz
      rcases hz with rfl | rfl | hz
      · exact h1
      · omega
      · exact ih x z (by simp [hz])
theorem minOf_mem : ∀ (x : Int) (xs : List Int), PySem.W.minOf x xs ∈ x :: xs := fun x xs => by
  unfold PySem.W.minOf
  induction xs generalizing x with
  | nil => simp
  | cons y ys ih =>
    rw [List.foldl_cons]
    by_cases hc : DatumOrd.lt y x = true
    · rw [if_pos hc]
      have := ih y
      simp only [List.mem_cons] at this ⊢
      rcases this with h | h
      · exact .inr (.inl h)
      · exact .inr (.inr h)
    · rw [if_neg hc]
      have := ih x
      simp only [List.mem_cons] at this ⊢
      rcases this with h | h
      · exact .inl h
      · exact .inr (.inr h)
theorem minOf_le : ∀ (x : Int) (xs : List Int), ∀ y ∈ x :: xs, PySem.W.minOf x xs ≤ y := fun x xs => by
  unfold PySem.W.minOf
  induction xs generalizing x with
  | nil => simp
  | cons y ys ih =>
    intro z hz
    rw [List.foldl_cons]
    by_cases hc : DatumOrd.lt y x = true
    · rw [if_pos hc]
      have hlt : y < x := of_decide_eq_true hc
      have h1 := ih y y (by simp)
      simp only [List.mem_cons] at hz
      rcases hz with rfl | rfl | hz
      · omega
      · exact h1
      · exact ih y z (by simp [hz])
    · rw [if_neg hc]
      have hlt : ¬ y < x := fun h => hc (decide_eq_true h)
      have h1 := ih x x (by simp)
      simp only [List.mem_cons] at hz
      rcases hz with rfl | rfl | hz
      · exact h1
      · omega
      · exact ih x z (by simp [hz])
/-- the greatest, the least of ints -/
def lmax : List Int → Int
  | [] => 0
  | x :: xs => PySem.W.maxOf x xs
def lmin : List Int → Int
  | [] => 0
  | x :: xs => PySem.W.minOf x xs
theorem lmax_mem {xs : List Int} (h : xs ≠ []) : lmax xs ∈ xs := by
  cases xs with
  | nil => exact absurd rfl h
  | cons x r => exact maxOf_mem x r
theorem lmax_ge {xs : List Int} {y : Int} (h : y ∈ xs) : y ≤ lmax xs := by
  cases xs with
  | nil => cases h
  | cons x r => exact maxOf_ge x r y h
theorem lmin_mem {xs : List Int} (h : xs ≠ []) : lmin xs ∈ xs := by
  cases xs with
  | nil => exact absurd rfl h
  | cons x r => exact minOf_mem x r
theorem lmin_le {xs : List Int} {y : Int} (h : y ∈ xs) : lmin xs ≤ y := by
  cases xs with
  | nil => cases h
  | cons x r => exact minOf_le x r y h

def rLenX (K : PySem.W.Frag) : List V → Hp → VK → Prop := fun xs H Q => ∃ p ys, xs = [.ref p] ∧ (SqL K H p ys ∨ SqT K H p ys) ∧ Q (.int ys.length) H
def rSumX (K : PySem.W.Frag) : List V → Hp → VK → Prop := fun vs H Q => ∃ (a : Addr) (ns : List Int), vs = [V.ref a] ∧ SqLT K H a (ns.map V.int) ∧ Q (.int ns.sum) H
def rMaxX (K : PySem.W.Frag) : List V → Hp → VK → Prop := fun vs H Q => ∃ (a : Addr) (ns : List Int), vs = [V.ref a] ∧ SqLT K H a (ns.map V.int) ∧ ns ≠ [] ∧ Q (.int (lmax ns)) H
def rMinX (K : PySem.W.Frag) : List V → Hp → VK → Prop := fun vs H Q => ∃ (a : Addr) (ns : List Int), vs = [V.ref a] ∧ SqLT K H a (ns.map V.int) ∧ ns ≠ [] ∧ Q (.int (lmin ns)) H
def rListX (K : PySem.W.Frag) : List V → Hp → VK → Prop := fun xs H Q => ∃ p ys, xs = [.ref p] ∧ (SqL K H p ys ∨ SqT K H p ys) ∧ ∀ l, H l = none → Q (.ref l) (upd H l (.lst ys))
def rTupleX (K : PySem.W.Frag) : List V → Hp → VK → Prop := fun xs H Q => ∃ p ys, xs = [.ref p] ∧ ((SqL K H p ys ∧ ∀ l, H l = none → Q (.ref l) (upd H l (.tup ys))) ∨ (SqT K H p ys ∧ Q (.ref p) H))
def rIntX : List V → Hp → VK → Prop := fun xs H Q => (∃ i, xs = [.int i] ∧ Q (.int i) H) ∨ ∃ k, xs = [.bl k] ∧ Q (.int (if k then 1 else 0)) H
def rAbsX : List V → Hp → VK → Prop := fun xs H Q => ∃ i, xs = [.int i] ∧ Q (.int (if i < 0 then -i else i)) H
def rMax2 : List V → Hp → VK → Prop := fun xs H Q => ∃ i j, xs = [.int i, .int j] ∧ Q (.int (if j > i then j else i)) H
def rMin2 : List V → Hp → VK → Prop := fun xs H Q => ∃ i j, xs = [.int i, .int j] ∧ Q (.int (if j < i then j else i)) H
/-- sorted of data; R: whatever the items are known to stand for -/
def rSortX (K : PySem.W.Frag) : List V → Hp → VK → Prop := fun vs H Q => ∃ (α : Type) (_ : DecidableEq α) (_ : DatumOrd α) (R : V → α → Prop) (a : Addr) (ws : List V) (xs : List α), vs = [V.ref a] ∧ SqL K H a ws ∧ Paired (fun v x => Rp K H v x ∧ R v x) ws xs ∧ Datum.depth α ≤ 40 ∧
  PySem.W.Sortable (xs.map (Datum.toD (α := α))) ∧ ∀ (ws' : List V) (p : Addr), Paired R ws' (xs.mergeSort fun a b => !DatumOrd.lt b a) → H p = none → Q (.ref p) (upd H p (.lst ws'))
section
variable {X : Cx}
theorem cr_lenX : CallR X (.builtin "len") (rLenX X.K) := call_len_seq
theorem cr_listX : CallR X (.type "list") (rListX X.K) := call_list_of
theorem cr_tupleX : CallR X (.type "tuple") (rTupleX X.K) := call_tuple_of
theorem cr_intX : CallR X (.type "int") rIntX := call_int1
theorem cr_absX : CallR X (.builtin "abs") rAbsX := call_abs
theorem cr_max2X (hc : X.calm = true) : CallR X (.builtin "max") rMax2 := call_max2 hc
theorem cr_min2X (hc : X.calm = true) : CallR X (.builtin "min") rMin2 := call_min2 hc
theorem cr_sumX (hc : X.calm = true) : CallR X (.builtin "sum") (rSumX X.K) := by
  intro pins s σ H vs us Q I r h
  obtain ⟨a, ns, rfl, hs, q⟩ := h
  rw [Vals.ref1 r]
  rcases hs with hs | hs
  · obtain ⟨its, rv, hl, _⟩ := I.list hs
    exact sum_raw (I.ok.hd hc) hl.isList rv.ints fun h' tk t' hk => ⟨.int _, H, I.kept hk, ⟨_, rfl⟩, q⟩
  · obtain ⟨its, rv, hl, _⟩ := I.tuple hs
    exact sum_rawT (I.ok.hd hc) (show s.heap.IsTuple a its.toArray from hl) rv.ints fun h' tk t' hk => ⟨.int _, H, I.kept hk, ⟨_, rfl⟩, q⟩
theorem holdAll_ints {s : Shared} {H : Hp} {σ : L2.St} {pins : List (Addr × Obj)} {its : List Value} {ns : List Int} (rv : Vals (ns.map V.int) its) : HoldAll s.heap its.toArray.toList ns := HoldAll.of_ints (by simpa using rv.ints)
theorem cr_maxX (hc : X.calm = true) (hu : X.A.units + 64 < cLine) : CallR X (.builtin "max") (rMaxX X.K) := by
  intro pins s σ H vs us Q I r h
  obtain ⟨a, ns, rfl, hs, hne, q⟩ := h
  rw [Vals.ref1 r]
  rcases hs with hs | hs
  · obtain ⟨its, rv, hl, _⟩ := I.list hs
    refine max_raw (I.ok.hd hc) hl.isList rv.ints (List.length_pos_iff.mpr hne) fun h' tk m t' hk h1 h2 => ⟨.int _, H, I.kept hk, ⟨_, rfl⟩, ?_⟩
    have e : m = lmax ns := Int.le_antisymm (lmax_ge h1) (h2 _ (lmax_mem hne))
    rw [e]
    exact q
  · obtain ⟨its, rv, hl, _⟩ := I.tuple hs
    cases ns with
    | nil => exact absurd rfl hne
    | cons n ns =>
      refine PySem.W.max_tuple_datum (I.ok.hd hc) (show s.heap.IsTuple a its.toArray from hl) (holdAll_ints (s := s) (H := H) (σ := σ) (pins := pins) rv) (by show _ + 1 + 0 < _; omega) fun i v h' tk hi hv hk => ?_
      obtain ⟨t, rfl⟩ := PySem.W.int_of_holds hv
      exact ⟨.int _, H, I.kept hk, ⟨t, rfl⟩, q⟩
theorem cr_minX (hc : X.calm = true) (hu : X.A.units + 64 < cLine) : CallR X (.builtin "min") (rMinX X.K) := by
  intro pins s σ H vs us Q I r h
  obtain ⟨a, ns, rfl, hs, hne, q⟩ := h
  rw [Vals.ref1 r]
  rcases hs with hs | hs
  · obtain ⟨its, rv, hl, _⟩ := I.list hs
    refine min_raw (I.ok.hd hc) hl.isList rv.ints (List.length_pos_iff.mpr hne) fun h' tk m t' hk h1 h2 => ⟨.int _, H, I.kept hk, ⟨_, rfl⟩, ?_⟩
    have e : m = lmin ns := Int.le_antisymm (h2 _ (lmin_mem hne)) (lmin_le h1)
    rw [e]
    exact q
  · obtain ⟨its, rv, hl, _⟩ := I.tuple hs
    cases ns with
    | nil => exact absurd rfl hne
    | cons n ns =>
      refine PySem.W.min_tuple_datum (I.ok.hd hc) (show s.heap.IsTuple a its.toArray from hl) (holdAll_ints (s := s) (H := H) (σ := σ) (pins := pins) rv) (by show _ + 1 + 0 < _; omega) fun i v h' tk hi hv hk => ?_
      obtain ⟨t, rfl⟩ := PySem.W.int_of_holds hv
      exact ⟨.int _, H, I.kept hk, ⟨t, rfl⟩, q⟩
end
theorem dataLe_datum {α : Type} [DecidableEq α] [DatumOrd α] : PySem.W.dataLe false (Datum.toD (α := α)) = fun a b => !DatumOrd.lt b a := by
  rw [PySem.W.dataLe_eq]
  funext a b
  show (!PySem.W.dataLt (Datum.toD b) (Datum.toD a)) = _
  rw [DatumOrd.lt_eq]
section
variable {X : Cx} {α : Type} [DecidableEq α] [DatumOrd α]
/-- the value u stands for x -/
def StandsFor (K : PySem.W.Frag) (H : Hp) (R : V → α → Prop) (u : Value) (x : α) : Prop := ∃ v, RelV v u ∧ Rp K H v x ∧ R v x
theorem each_of {R : V → α → Prop} : ∀ {vs : List V} {us : List Value} {xs : List α} {H : Hp}, Vals vs us → Paired (fun v x => Rp X.K H v x ∧ R v x) vs xs → PySem.W.EachIs (StandsFor X.K H R) us xs
  | _, _, _, _, .nil, .nil => .nil
  | _, _, _, _, .cons r1 r2, .cons h1 h2 => .cons ⟨_, r1, h1.1, h1.2⟩ (each_of r2 h2)
theorem of_each {R : V → α → Prop} : ∀ {us : List Value} {xs : List α} {H : Hp}, PySem.W.EachIs (StandsFor X.K H R) us xs → ∃ vs, Vals vs us ∧ Paired R vs xs
  | _, _, _, .nil => ⟨[], .nil, .nil⟩
  | _, _, _, .cons ⟨v, r, _, h⟩ t => by
    obtain ⟨vs, r2, h2⟩ := of_each t
    exact ⟨v :: vs, .cons r r2, .cons h h2⟩
end
theorem cr_sortX {X : Cx} (hu : X.A.units + 64 < cLine) : CallR X (.builtin "sorted") (rSortX X.K) := by
  intro pins s σ H vs us Q I r h
  obtain ⟨α, _, _, R, a, ws, xs, rfl, hs, hr, hd, hk, q⟩ := h
  rw [Vals.ref1 r]
  obtain ⟨its, rv, hl, hz⟩ := I.list hs
  have e := each_of (X := X) rv hr
  have hlen : xs.length ≤ sizeLine := by rw [← Paired.length hr]; exact hz
  refine PySem.W.sorted_data (enc := Datum.toD (α := α)) hl.isList e (e.mono fun u x ⟨v, rv, h, _⟩ => Dp.reads I _ _ _ (Dq.dp _ _ h) rv) (PySem.W.AllAlike.of fun b b' => DatumOrd.alike b b') hk hlen (fun b _ => ?_) fun out hol he => ?_
  · have := Datum.depth_le b
    omega
  · obtain ⟨ep, he'⟩ := PyProof.Rows.sortedAll_at s.heap its out.toArray
    rw [dataLe_datum] at he
    obtain ⟨ws', rv', hr'⟩ := of_each he
    have hlen' : ws'.length ≤ sizeLine := by rw [rv'.length, hol]; exact hlen
    exact ⟨.ref _, upd H (s.heap.objs.size + 1) (.lst ws'), I.laid (t' := s.toks) (fun _ _ => PyProof.Rows.sortedAll_old) (Nat.le_succ _) ⟨hlen', out, ep, rv', he'⟩, rfl, q ws' _ hr' (I.hok.fresh (Nat.le_succ _))⟩

/-! ### list + list, list * int -/
def rCatL : R2 := fun x y H Q => ∃ l b xs zs, x = .ref l ∧ y = .ref b ∧ Rd H l (.lst xs) ∧ Rd H b (.lst zs) ∧ xs.length + zs.length ≤ sizeLine ∧ ∀ p, H p = none → Q (.ref p) (upd H p (.lst (xs ++ zs)))
theorem op_catL {X : Cx} : OpR X (binaryOp .Add) rCatL := by
  intro pins s σ H x y v u Q I rx ry h
  obtain ⟨l, b, xs, zs, rfl, rfl, hH, hB, hz, q⟩ := h
  cases rx
  cases ry
  obtain ⟨z, its, n, r, e⟩ := hH.ok I.hok
  obtain ⟨z2, its2, n2, r2, e2⟩ := hB.ok I.hok
  have hl := r.length
  have hl2 := r2.length
  refine PySem.P.add_list e e2 ?_ (by rw [List.size_toArray, List.size_toArray]; omega)
  have ea : its.toArray ++ its2.toArray = (its ++ its2).toArray := by simp
  rw [ea]
  exact ⟨.ref _, _, I.lnew (t' := s.toks) (r.append r2) (by rw [List.length_append]; omega), rfl, q _ I.fresh⟩
end Sp

set_option Elab.async false
set_option linter.all false
set_option maxRecDepth 100000
set_option maxHeartbeats 2000000
namespace Sp
open PySem PySem.Spec PyProof.Rows L2
open PySem.W (Datum DatumOrd Tup Holds HoldAll)
section
variable {K : PySem.W.Frag} {F F' : Hp} {σ : L2.St} {ta tb te : TE} {tt tu : TT} {α β γ δ : Type} [DecidableEq α] [Datum α] [DecidableEq β] [Datum β] [DecidableEq γ] [Datum γ] [DecidableEq δ] [Datum δ]
theorem rd_le {c : Addr → Bool} {H : Hp} {a : Addr} {u : HO} (h : Rd (hid c H) a u) : Rd H a u := Evl.ex_rd (hid_le c H) h
theorem sqt_le {c : Addr → Bool} {H : Hp} {a : Addr} {u : List V} (h : SqT K (hid c H) a u) : SqT K H a u := Evl.ex_t (hid_le c H) h
theorem Rp.le {c : Addr → Bool} {H : Hp} {v : V} {x : α} (h : Rp K (hid c H) v x) : Rp K H v x := h.mono (hid_le c H)
theorem Rps.le {c : Addr → Bool} {H : Hp} {v : List V} {x : List α} (h : Rps K (hid c H) v x) : Rps K H v x := h.mono (hid_le c H)
/-- two expressions, one after the other -/
theorem ev2 {x : α} {y : β} (ha : Ev K F ta σ x) (hb : Ev K F tb σ y) {c : Addr → Bool} {H : Hp} (a : Same F (hid c H)) (ok : Okc c H) {R : V → V → Hp → Prop}
    (h : ∀ v w H', Same H H' → Okc c H' → Rp K (hid c H') v x → Rp K (hid c H') w y → R v w H') : ta σ H fun v H1 => tb σ H1 fun w H2 => R v w H2 :=
  ha c H a ok _ fun v H1 s1 r1 => hb c H1 (a.trans s1.hid) (ok.mono s1) _ fun w H2 s2 r2 => h v w H2 (s1.trans s2) ((ok.mono s1).mono s2) (r1.mono s2.hid) r2
/-- ==, !=, in, not in, < -/
theorem ev_eq {x y : α} (ha : Ev K F ta σ x) (hb : Ev K F tb σ y) (hd : Datum.depth α ≤ 40 := by decide) : Ev K F (tOp (rEqX K) ta tb) σ (decide (x = y)) := fun c H a ok Q q =>
  ev2 ha hb a ok fun v w H' s k r1 r2 => ⟨α, inferInstance, inferInstance, x, y, hd, r1.le, r2.le, q _ H' s rp_mkB⟩
theorem ev_ne {x y : α} (ha : Ev K F ta σ x) (hb : Ev K F tb σ y) (hd : Datum.depth α ≤ 40 := by decide) : Ev K F (tOp (rNeX K) ta tb) σ (decide (x ≠ y)) := fun c H a ok Q q =>
  ev2 ha hb a ok fun v w H' s k r1 r2 => ⟨α, inferInstance, inferInstance, x, y, hd, r1.le, r2.le, q _ H' s rp_mkB⟩
theorem ev_inL {x : α} {y : List α} (ha : Ev K F ta σ x) (hb : Ev K F tb σ y) (hd : Datum.depth α ≤ 40 := by decide) : Ev K F (tOp (rInX K false) ta tb) σ (decide (x ∈ y)) := fun c H a ok Q q =>
  ev2 ha hb a ok fun v w H' s k r1 r2 => ⟨α, inferInstance, inferInstance, x, y, hd, r1.le, .inl r2.le, q _ H' s rp_mkB⟩
theorem ev_inT {x : α} {y : Tup α} (ha : Ev K F ta σ x) (hb : Ev K F tb σ y) (hd : Datum.depth α ≤ 40 := by decide) : Ev K F (tOp (rInX K false) ta tb) σ (decide (x ∈ y.items)) := fun c H a ok Q q =>
  ev2 ha hb a ok fun v w H' s k r1 r2 => ⟨α, inferInstance, inferInstance, x, y.items, hd, r1.le, .inr r2.le, q _ H' s rp_mkB⟩
theorem ev_ninL {x : α} {y : List α} (ha : Ev K F ta σ x) (hb : Ev K F tb σ y) (hd : Datum.depth α ≤ 40 := by decide) : Ev K F (tOp (rInX K true) ta tb) σ (decide (x ∉ y)) := fun c H a ok Q q =>
  ev2 ha hb a ok fun v w H' s k r1 r2 => ⟨α, inferInstance, inferInstance, x, y, hd, r1.le, .inl r2.le, q _ H' s rp_mkB⟩
theorem ev_ninT {x : α} {y : Tup α} (ha : Ev K F ta σ x) (hb : Ev K F tb σ y) (hd : Datum.depth α ≤ 40 := by decide) : Ev K F (tOp (rInX K true) ta tb) σ (decide (x ∉ y.items)) := fun c H a ok Q q =>
  ev2 ha hb a ok fun v w H' s k r1 r2 => ⟨α, inferInstance, inferInstance, x, y.items, hd, r1.le, .inr r2.le, q _ H' s rp_mkB⟩
theorem ev_lt {ε : Type} [DecidableEq ε] [DatumOrd ε] {x y : ε} (ha : Ev K F ta σ x) (hb : Ev K F tb σ y) (hd : Datum.depth ε ≤ 40 := by decide) : Ev K F (tOp (rLtX K) ta tb) σ (DatumOrd.lt x y) := fun c H a ok Q q =>
  ev2 ha hb a ok fun v w H' s k r1 r2 => ⟨ε, inferInstance, inferInstance, x, y, hd, r1.le, r2.le, q _ H' s rp_mkB⟩

/-! ### untyped -/
def EvD (K : PySem.W.Frag) (F : Hp) (t : TE) (σ : L2.St) (d : PyData) : Prop := ∀ c H, Same F (hid c H) → Okc c H → ∀ Q : VK, (∀ v H', Same H H' → Dq K (hid c H') v d → Q v H') → t σ H Q
theorem Ev.d {x : α} (h : Ev K F te σ x) : EvD K F te σ (Datum.toD x) := h
theorem EvD.t {x : α} (h : EvD K F te σ (Datum.toD x)) : Ev K F te σ x := h
theorem EvD.mono {x : PyData} (s : Same F F') (h : EvD K F te σ x) : EvD K F' te σ x := fun c H a ok Q q => h c H (Same.trans s a) ok Q q
theorem evd_var {i : Nat} {v : V} {x : PyData} (h : σ[i]? = some (some v)) (r : Dq K F v x) : EvD K F (tVar i) σ x := fun c H a ok Q q => ⟨v, h, q v H (Same.refl H) (dp_mono a _ _ r)⟩
theorem ev_isInt {d : PyData} (ha : EvD K F ta σ d) : Ev K F (tCB (rIsaX K) (tCons ta (tCons (tC (.ty "int")) tNil))) σ d.isInt := fun c H a ok Q q =>
  ha c H a ok _ fun v H1 s1 r1 => ⟨v, d, dp_mono (hid_le c H1) _ _ r1, .inl ⟨rfl, q _ H1 s1 rp_mkB⟩⟩
theorem ev_isBool {d : PyData} (ha : EvD K F ta σ d) : Ev K F (tCB (rIsaX K) (tCons ta (tCons (tC (.ty "bool")) tNil))) σ d.isBool := fun c H a ok Q q =>
  ha c H a ok _ fun v H1 s1 r1 => ⟨v, d, dp_mono (hid_le c H1) _ _ r1, .inr (.inl ⟨rfl, q _ H1 s1 rp_mkB⟩)⟩
theorem ev_isTuple {d : PyData} (ha : EvD K F ta σ d) : Ev K F (tCB (rIsaX K) (tCons ta (tCons (tC (.ty "tuple")) tNil))) σ d.isTuple := fun c H a ok Q q =>
  ha c H a ok _ fun v H1 s1 r1 => ⟨v, d, dp_mono (hid_le c H1) _ _ r1, .inr (.inr (.inl ⟨rfl, q _ H1 s1 rp_mkB⟩))⟩
theorem ev_isList {d : PyData} (ha : EvD K F ta σ d) : Ev K F (tCB (rIsaX K) (tCons ta (tCons (tC (.ty "list")) tNil))) σ d.isList := fun c H a ok Q q =>
  ha c H a ok _ fun v H1 s1 r1 => ⟨v, d, dp_mono (hid_le c H1) _ _ r1, .inr (.inr (.inr (.inl ⟨rfl, q _ H1 s1 rp_mkB⟩)))⟩
theorem ev_isStr {d : PyData} (ha : EvD K F ta σ d) : Ev K F (tCB (rIsaX K) (tCons ta (tCons (tC (.ty "str")) tNil))) σ d.isStr := fun c H a ok Q q =>
  ha c H a ok _ fun v H1 s1 r1 => ⟨v, d, dp_mono (hid_le c H1) _ _ r1, .inr (.inr (.inr (.inr ⟨rfl, q _ H1 s1 rp_mkB⟩)))⟩

/-! ### built-ins -/
theorem ev_lenL {x : List α} (ha : Ev K F ta σ x) : Ev K F (tCB (rLenX K) (tCons ta tNil)) σ (x.length : Int) := fun c H a ok Q q =>
  ha c H a ok _ fun v H1 s1 r1 => by
    obtain ⟨b, vs, rfl, hs, hr⟩ := rp_lst r1
    have e : (vs.length : Int) = (x.length : Int) := by rw [hr.length]
    exact ⟨b, vs, rfl, .inl (.inl (rd_le hs)), by rw [e]; exact q _ H1 s1 rp_mkI⟩
theorem ev_lenT {x : Tup α} (ha : Ev K F ta σ x) : Ev K F (tCB (rLenX K) (tCons ta tNil)) σ (x.items.length : Int) := fun c H a ok Q q =>
  ha c H a ok _ fun v H1 s1 r1 => by
    obtain ⟨b, vs, rfl, hs, hr⟩ := rp_tup r1
    have e : (vs.length : Int) = (x.items.length : Int) := by rw [hr.length]
    exact ⟨b, vs, rfl, .inr (sqt_le hs), by rw [e]; exact q _ H1 s1 rp_mkI⟩
theorem ev_sumL {x : List Int} (ha : Ev K F ta σ x) : Ev K F (tCB (rSumX K) (tCons ta tNil)) σ x.sum := fun c H a ok Q q =>
  ha c H a ok _ fun v H1 s1 r1 => by
    obtain ⟨b, vs, rfl, hs, hr⟩ := rp_lst r1
    rw [hr.ints] at hs
    exact ⟨b, x, rfl, .inl (.inl (rd_le hs)), q _ H1 s1 rp_mkI⟩
theorem ev_sumT {x : Tup Int} (ha : Ev K F ta σ x) : Ev K F (tCB (rSumX K) (tCons ta tNil)) σ x.items.sum := fun c H a ok Q q =>
  ha c H a ok _ fun v H1 s1 r1 => by
    obtain ⟨b, vs, rfl, hs, hr⟩ := rp_tup r1
    rw [hr.ints] at hs
    exact ⟨b, x.items, rfl, .inr (sqt_le hs), q _ H1 s1 rp_mkI⟩
theorem ev_maxL {x : List Int} (ha : Ev K F ta σ x) (hn : x ≠ []) : Ev K F (tCB (rMaxX K) (tCons ta tNil)) σ (lmax x) := fun c H a ok Q q =>
  ha c H a ok _ fun v H1 s1 r1 => by
    obtain ⟨b, vs, rfl, hs, hr⟩ := rp_lst r1
    rw [hr.ints] at hs
    exact ⟨b, x, rfl, .inl (.inl (rd_le hs)), hn, q _ H1 s1 rp_mkI⟩
theorem ev_maxT {x : Tup Int} (ha : Ev K F ta σ x) (hn : x.items ≠ []) : Ev K F (tCB (rMaxX K) (tCons ta tNil)) σ (lmax x.items) := fun c H a ok Q q =>
  ha c H a ok _ fun v H1 s1 r1 => by
    obtain ⟨b, vs, rfl, hs, hr⟩ := rp_tup r1
    rw [hr.ints] at hs
    exact ⟨b, x.items, rfl, .inr (sqt_le hs), hn, q _ H1 s1 rp_mkI⟩
theorem ev_minL {x : List Int} (ha : Ev K F ta σ x) (hn : x ≠ []) : Ev K F (tCB (rMinX K) (tCons ta tNil)) σ (lmin x) := fun c H a ok Q q =>
  ha c H a ok _ fun v H1 s1 r1 => by
    obtain ⟨b, vs, rfl, hs, hr⟩ := rp_lst r1
    rw [hr.ints] at hs
    exact ⟨b, x, rfl, .inl (.inl (rd_le hs)), hn, q _ H1 s1 rp_mkI⟩
theorem ev_minT {x : Tup Int} (ha : Ev K F ta σ x) (hn : x.items ≠ []) : Ev K F (tCB (rMinX K) (tCons ta tNil)) σ (lmin x.items) := fun c H a ok Q q =>
  ha c H a ok _ fun v H1 s1 r1 => by
    obtain ⟨b, vs, rfl, hs, hr⟩ := rp_tup r1
    rw [hr.ints] at hs
    exact ⟨b, x.items, rfl, .inr (sqt_le hs), hn, q _ H1 s1 rp_mkI⟩
theorem ev_listL {x : List α} (ha : Ev K F ta σ x) : Ev K F (tCB (rListX K) (tCons ta tNil)) σ x := fun c H a ok Q q =>
  ha c H a ok _ fun v H1 s1 r1 => by
    obtain ⟨b, vs, rfl, hs, hr⟩ := rp_lst r1
    exact ⟨b, vs, rfl, .inl (.inl (rd_le hs)), fun l nl => q _ _ (s1.trans (same_new nl)) (rp_mkL (.inl (hid_new ((ok.mono s1).new nl))) (hr.mono (same_new nl).hid))⟩
theorem ev_listT {x : Tup α} (ha : Ev K F ta σ x) : Ev K F (tCB (rListX K) (tCons ta tNil)) σ x.items := fun c H a ok Q q =>
  ha c H a ok _ fun v H1 s1 r1 => by
    obtain ⟨b, vs, rfl, hs, hr⟩ := rp_tup r1
    exact ⟨b, vs, rfl, .inr (sqt_le hs), fun l nl => q _ _ (s1.trans (same_new nl)) (rp_mkL (.inl (hid_new ((ok.mono s1).new nl))) (hr.mono (same_new nl).hid))⟩
theorem sqt_new {c : Addr → Bool} {H : Hp} {p : Addr} {xs : List V} (ok : Okc c H) (n : H p = none) : hid c (upd H p (.tup xs)) p = some (.tup xs) := hid_new (ok.new n)
theorem ev_tupL {x : List α} (ha : Ev K F ta σ x) : Ev K F (tCB (rTupleX K) (tCons ta tNil)) σ (Tup.mk x) := fun c H a ok Q q =>
  ha c H a ok _ fun v H1 s1 r1 => by
    obtain ⟨b, vs, rfl, hs, hr⟩ := rp_lst r1
    exact ⟨b, vs, rfl, .inl ⟨.inl (rd_le hs), fun l nl => q _ _ (s1.trans (same_new nl)) (rp_mkT (sqt_new (ok.mono s1) nl) (hr.mono (same_new nl).hid))⟩⟩
theorem ev_tupT {x : Tup α} (ha : Ev K F ta σ x) : Ev K F (tCB (rTupleX K) (tCons ta tNil)) σ x := fun c H a ok Q q =>
  ha c H a ok _ fun v H1 s1 r1 => by
    obtain ⟨b, vs, rfl, hs, hr⟩ := rp_tup r1
    exact ⟨b, vs, rfl, .inr ⟨sqt_le hs, q _ H1 s1 r1⟩⟩
theorem ev_intI {x : Int} (ha : Ev K F ta σ x) : Ev K F (tCB rIntX (tCons ta tNil)) σ x := fun c H a ok Q q =>
  ha c H a ok _ fun v H1 s1 r1 => .inl ⟨x, by rw [rp_int r1], q _ H1 s1 rp_mkI⟩
theorem ev_intB {x : Bool} (ha : Ev K F ta σ x) : Ev K F (tCB rIntX (tCons ta tNil)) σ (if x then (1 : Int) else 0) := fun c H a ok Q q =>
  ha c H a ok _ fun v H1 s1 r1 => .inr ⟨x, by rw [rp_bool r1], q _ H1 s1 rp_mkI⟩
theorem ev_abs {x : Int} (ha : Ev K F ta σ x) : Ev K F (tCB rAbsX (tCons ta tNil)) σ (if x < 0 then -x else x) := fun c H a ok Q q =>
  ha c H a ok _ fun v H1 s1 r1 => ⟨x, by rw [rp_int r1], q _ H1 s1 rp_mkI⟩
theorem ev_max2 {x y : Int} (ha : Ev K F ta σ x) (hb : Ev K F tb σ y) : Ev K F (tCB rMax2 (tCons ta (tCons tb tNil))) σ (if y > x then y else x) := fun c H a ok Q q =>
  ev2 ha hb a ok fun v w H' s k r1 r2 => ⟨x, y, by rw [rp_int r1, rp_int r2], q _ H' s rp_mkI⟩
theorem ev_min2 {x y : Int} (ha : Ev K F ta σ x) (hb : Ev K F tb σ y) : Ev K F (tCB rMin2 (tCons ta (tCons tb tNil))) σ (if y < x then y else x) := fun c H a ok Q q =>
  ev2 ha hb a ok fun v w H' s k r1 r2 => ⟨x, y, by rw [rp_int r1, rp_int r2], q _ H' s rp_mkI⟩
theorem ev_gcd {x y : Int} (ha : Ev K F ta σ x) (hb : Ev K F tb σ y) : Ev K F (tCB rGcd (tCons ta (tCons tb tNil))) σ ((Nat.gcd x.natAbs y.natAbs : Nat) : Int) := fun c H a ok Q q =>
  ev2 ha hb a ok fun v w H' s k r1 r2 => ⟨x, y, by rw [rp_int r1, rp_int r2], q _ H' s rp_mkI⟩
theorem ev_sort {ε : Type} [DecidableEq ε] [DatumOrd ε] {x : List ε} (ha : Ev K F ta σ x) (hk : PySem.W.Sortable (x.map (Datum.toD (α := ε)))) (hd : Datum.depth ε ≤ 40 := by decide) :
    Ev K F (tCB (rSortX K) (tCons ta tNil)) σ (x.mergeSort fun a b => !DatumOrd.lt b a) := fun c H a ok Q q =>
  ha c H a ok _ fun v H1 s1 r1 => by
    obtain ⟨b, vs, rfl, hs, hr⟩ := rp_lst r1
    exact ⟨ε, inferInstance, inferInstance, fun v x => Rp K (hid c H1) v x, b, vs, x, rfl, .inl (rd_le hs), L2.Paired.mapP hr.paired (fun v x h => ⟨h.le, h⟩), hd, hk, fun ws' p hr' np =>
      q _ _ (s1.trans (same_new np)) (rp_mkL (.inl (hid_new ((ok.mono s1).new np))) ((Rps.of_paired hr').mono (same_new np).hid))⟩
theorem ev_all {x : List Bool} (ha : Ev K F ta σ x) : Ev K F (tCB (rAll K) (tCons ta tNil)) σ (x.all id) := fun c H a ok Q q =>
  ha c H a ok _ fun v H1 s1 r1 => by
    obtain ⟨b, vs, rfl, hs, hr⟩ := rp_lst r1
    rw [hr.bls] at hs
    exact ⟨b, x, rfl, .inl (rd_le hs), q _ H1 s1 rp_mkB⟩
theorem ev_any {x : List Bool} (ha : Ev K F ta σ x) : Ev K F (tCB (rAny K) (tCons ta tNil)) σ (x.any id) := fun c H a ok Q q =>
  ha c H a ok _ fun v H1 s1 r1 => by
    obtain ⟨b, vs, rfl, hs, hr⟩ := rp_lst r1
    rw [hr.bls] at hs
    exact ⟨b, x, rfl, .inl (rd_le hs), q _ H1 s1 rp_mkB⟩
/-- list(range(n)) -/
def rangeL (a b : Int) : List Int := (List.range (b - a).toNat).map fun i => a + (i : Nat)
theorem rgV_rangeL (a b : Int) : rgV a b = (rangeL a b).map V.int := by
  unfold rgV rangeL
  rw [List.map_map]
  rfl
theorem ev_rangeL1 {n : Int} (ha : Ev K F ta σ n) (hn : 0 ≤ n ∧ n ≤ 16777216) : Ev K F (tLstRg (tRg1 ta)) σ (rangeL 0 n) := fun c H a ok Q q =>
  ha c H a ok _ fun v H1 s1 r1 => ⟨n, rp_int r1, RgOk.of_le (by omega) (by omega) (by omega) (by omega), fun l nl => q _ _ (s1.trans (same_new nl)) (rp_mkL (.inl (hid_new ((ok.mono s1).new nl))) (by rw [rgV_rangeL]; exact rps_ints))⟩
theorem ev_rangeL2 {m n : Int} (ha : Ev K F ta σ m) (hb : Ev K F tb σ n) (hn : 0 ≤ m ∧ m ≤ 16777216 ∧ 0 ≤ n ∧ n ≤ 16777216) : Ev K F (tLstRg (tRg2 ta tb)) σ (rangeL m n) := fun c H a ok Q q =>
  ev2 ha hb a ok fun v w H' s k r1 r2 => ⟨m, n, rp_int r1, rp_int r2, RgOk.of_le (by omega) (by omega) (by omega) (by omega), fun l nl => q _ _ (s.trans (same_new nl)) (rp_mkL (.inl (hid_new (k.new nl))) (by rw [rgV_rangeL]; exact rps_ints))⟩

/-! ### items, slices, displays -/
theorem atI_rps {vs : List V} {xs : List α} {i : Int} {x : α} (h : Rps K F vs xs) (e : atI xs i = some x) : ∃ v, atI vs i = some v ∧ Rp K F v x := by
  unfold atI at e ⊢
  rw [h.length]
  cases q : ixN xs.length i with
  | none => rw [q] at e; cases e
  | some j =>
    rw [q] at e
    exact h.get (i := j) e
theorem ev_ixL {x : List α} {i : Int} {y : α} (ha : Ev K F ta σ x) (hb : Ev K F tb σ i) (h : atI x i = some y) : Ev K F (tOp (rIx K) ta tb) σ y := fun c H a ok Q q =>
  ev2 ha hb a ok fun v w H' s k r1 r2 => by
    obtain ⟨b, vs, rfl, hs, hr⟩ := rp_lst r1
    obtain ⟨z, hz, rz⟩ := atI_rps hr h
    exact .inl ⟨b, vs, i, z, rfl, rp_int r2, .inl (rd_le hs), hz, q _ H' s rz⟩
theorem ev_ixT {x : Tup α} {i : Int} {y : α} (ha : Ev K F ta σ x) (hb : Ev K F tb σ i) (h : atI x.items i = some y) : Ev K F (tOp (rIx K) ta tb) σ y := fun c H a ok Q q =>
  ev2 ha hb a ok fun v w H' s k r1 r2 => by
    obtain ⟨b, vs, rfl, hs, hr⟩ := rp_tup r1
    obtain ⟨z, hz, rz⟩ := atI_rps hr h
    exact .inr (.inl ⟨b, vs, i, z, rfl, rp_int r2, sqt_le hs, hz, q _ H' s rz⟩)
theorem ev_fst {x : α × β} (ha : Ev K F ta σ x) : Ev K F (tOp (rIx K) ta (tC (.int 0))) σ x.1 := fun c H a ok Q q =>
  ha c H a ok _ fun v H1 s1 r1 => by
    obtain ⟨b, v1, v2, rfl, hs, hr1, hr2⟩ := rp_pair r1
    exact .inr (.inl ⟨b, _, 0, v1, rfl, rfl, sqt_le hs, rfl, q _ H1 s1 hr1⟩)
theorem ev_snd {x : α × β} (ha : Ev K F ta σ x) : Ev K F (tOp (rIx K) ta (tC (.int 1))) σ x.2 := fun c H a ok Q q =>
  ha c H a ok _ fun v H1 s1 r1 => by
    obtain ⟨b, v1, v2, rfl, hs, hr1, hr2⟩ := rp_pair r1
    exact .inr (.inl ⟨b, _, 1, v2, rfl, rfl, sqt_le hs, rfl, q _ H1 s1 hr2⟩)
/-- a slice's bound -/
def EvO (K : PySem.W.Frag) (F : Hp) (t : TO) (σ : L2.St) (o : Option Int) : Prop := ∀ c H, Same F (hid c H) → Okc c H → ∀ Q : Option Int → Hp → Prop, (∀ H', Same H H' → Q o H') → t σ H Q
theorem eo_none : EvO K F tNoPart σ none := fun c H a ok Q q => q H (Same.refl H)
theorem eo_some {i : Int} (h : Ev K F te σ i) : EvO K F (tPart te) σ (some i) := fun c H a ok Q q => h c H a ok _ fun v H1 s1 r1 => ⟨i, rp_int r1, q H1 s1⟩
def cutL {α : Type} (xs : List α) (lo hi : Option Int) : List α := (xs.drop (HT.sIx xs.length 0 lo)).take (HT.sIx xs.length xs.length hi - HT.sIx xs.length 0 lo)
theorem cut_rps {vs : List V} {xs : List α} {lo hi : Option Int} (h : Rps K F vs xs) : Rps K F (cutV vs lo hi) (cutL xs lo hi) := by
  unfold cutV cutL
  rw [h.length]
  exact (h.drop _).take _
theorem ev_slL {x : List α} {tl th : TO} {lo hi : Option Int} (ha : Ev K F ta σ x) (hl : EvO K F tl σ lo) (hh : EvO K F th σ hi) : Ev K F (tSl (rSlL K) ta tl th) σ (cutL x lo hi) := fun c H a ok Q q =>
  ha c H a ok _ fun v H1 s1 r1 => hl c H1 (a.trans s1.hid) (ok.mono s1) _ fun H2 s2 => hh c H2 ((a.trans s1.hid).trans s2.hid) ((ok.mono s1).mono s2) _ fun H3 s3 => by
    obtain ⟨b, vs, rfl, hs, hr⟩ := rp_lst (r1.mono (s2.trans s3).hid)
    exact ⟨b, vs, rfl, .inl (rd_le hs), fun p np => q _ _ ((s1.trans (s2.trans s3)).trans (same_new np)) (rp_mkL (.inl (hid_new ((((ok.mono s1).mono s2).mono s3).new np))) ((cut_rps hr).mono (same_new np).hid))⟩
theorem cut_whole {α : Type} {xs : List α} {lo hi : Option Int} (h : HT.sIx xs.length 0 lo = 0 ∧ HT.sIx xs.length xs.length hi = xs.length) : cutL xs lo hi = xs := by
  unfold cutL
  rw [h.1, h.2]
  simp
theorem ev_slT {x : Tup α} {tl th : TO} {lo hi : Option Int} (ha : Ev K F ta σ x) (hl : EvO K F tl σ lo) (hh : EvO K F th σ hi) : Ev K F (tSl (rSlA K) ta tl th) σ (Tup.mk (cutL x.items lo hi)) := fun c H a ok Q q =>
  ha c H a ok _ fun v H1 s1 r1 => hl c H1 (a.trans s1.hid) (ok.mono s1) _ fun H2 s2 => hh c H2 ((a.trans s1.hid).trans s2.hid) ((ok.mono s1).mono s2) _ fun H3 s3 => by
    obtain ⟨b, vs, rfl, hs, hr⟩ := rp_tupT (r1.mono (s2.trans s3).hid)
    refine ⟨b, vs, rfl, sqt_le (.inl (.inl hs)), fun hw => q _ _ (s1.trans (s2.trans s3)) ?_, fun _ p np => q _ _ ((s1.trans (s2.trans s3)).trans (same_new np)) (rp_mkT (sqt_new (((ok.mono s1).mono s2).mono s3) np) ((cut_rps hr).mono (same_new np).hid))⟩
    rw [hr.length] at hw
    rw [cut_whole hw]
    exact rp_mkT hs hr
/-- arguments, items of a display -/
def EvA (K : PySem.W.Frag) (F : Hp) (t : TA) (σ : L2.St) (ds : List PyData) : Prop := ∀ c H, Same F (hid c H) → Okc c H → ∀ Q : List V → Hp → Prop, (∀ vs H', Same H H' → DqAll K (hid c H') vs ds → Q vs H') → t σ H Q
theorem ea_nil : EvA K F tNil σ [] := fun c H a ok Q q => q [] H (Same.refl H) .nil
theorem ea_cons {x : α} {tr : TA} {ds : List PyData} (ha : Ev K F ta σ x) (hr : EvA K F tr σ ds) : EvA K F (tCons ta tr) σ (Datum.toD x :: ds) := fun c H a ok Q q =>
  ha c H a ok _ fun v H1 s1 r1 => hr c H1 (a.trans s1.hid) (ok.mono s1) _ fun vs H2 s2 r2 => q _ H2 (s1.trans s2) (.cons (dp_mono s2.hid _ _ r1) r2)
theorem ev_dispT {tr : TA} {ds : List PyData} {x : α} (h : EvA K F tr σ ds) (e : Datum.toD x = .tuple ds) (hz : ds.length ≤ sizeLine) : Ev K F (tTup tr) σ x := fun c H a ok Q q =>
  h c H a ok _ fun vs H1 s1 r1 => ⟨by rw [DqAll.length r1]; exact hz, fun p np => q _ _ (s1.trans (same_new np)) (by
    show Dq K _ _ (Datum.toD x)
    rw [e]
    exact .tup (sqt_new (ok.mono s1) np) (dpAll_mono (same_new np).hid _ _ r1))⟩
theorem ev_dispL {tr : TA} {ds : List PyData} {x : List α} (h : EvA K F tr σ ds) (e : Datum.toD x = .list ds) (hz : ds.length ≤ sizeLine) : Ev K F (tLst tr) σ x := fun c H a ok Q q =>
  h c H a ok _ fun vs H1 s1 r1 => ⟨by rw [DqAll.length r1]; exact hz, fun p np => q _ _ (s1.trans (same_new np)) (by
    show Dq K _ _ (Datum.toD x)
    rw [e]
    exact .lst (.inl (hid_new ((ok.mono s1).new np))) (dpAll_mono (same_new np).hid _ _ r1))⟩
/-- the items all of one type -/
def EvAs (K : PySem.W.Frag) (F : Hp) (t : TA) (σ : L2.St) (xs : List α) : Prop := EvA K F t σ (xs.map Datum.toD)
theorem es_nil : EvAs K F tNil σ ([] : List α) := ea_nil
theorem es_cons {x : α} {tr : TA} {xs : List α} (ha : Ev K F ta σ x) (hr : EvAs K F tr σ xs) : EvAs K F (tCons ta tr) σ (x :: xs) := ea_cons ha hr
theorem ev_dT {tr : TA} {xs : List α} (h : EvAs K F tr σ xs) (hz : xs.length ≤ sizeLine := by first | (show _ ≤ sizeLine; decide) | (simp only [List.length_cons, List.length_nil]; decide)) : Ev K F (tTup tr) σ (Tup.mk xs) := ev_dispT h rfl (by simpa using hz)
theorem ev_dL {tr : TA} {xs : List α} (h : EvAs K F tr σ xs) (hz : xs.length ≤ sizeLine := by first | (show _ ≤ sizeLine; decide) | (simp only [List.length_cons, List.length_nil]; decide)) : Ev K F (tLst tr) σ xs := ev_dispL h rfl (by simpa using hz)
theorem ev_d2 {x : α} {y : β} (ha : Ev K F ta σ x) (hb : Ev K F tb σ y) : Ev K F (tTup (tCons ta (tCons tb tNil))) σ (x, y) := ev_dispT (ea_cons ha (ea_cons hb ea_nil)) rfl (by show 2 ≤ sizeLine; decide)
/-- + of lists, of tuples -/
theorem ev_catL {x y : List α} (ha : Ev K F ta σ x) (hb : Ev K F tb σ y) (hz : x.length + y.length ≤ sizeLine) : Ev K F (tOp rCatL ta tb) σ (x ++ y) := fun c H a ok Q q =>
  ev2 ha hb a ok fun v w H' s k r1 r2 => by
    obtain ⟨b, vs, rfl, hs, hr⟩ := rp_lst r1
    obtain ⟨d, ws, rfl, hs2, hr2⟩ := rp_lst r2
    exact ⟨b, d, vs, ws, rfl, rfl, rd_le hs, rd_le hs2, by rw [hr.length, hr2.length]; exact hz, fun p np => q _ _ (s.trans (same_new np)) (rp_mkL (.inl (hid_new (k.new np))) ((hr.append hr2).mono (same_new np).hid))⟩
theorem ev_catT {x y : Tup α} (ha : Ev K F ta σ x) (hb : Ev K F tb σ y) (hz : x.items.length + y.items.length ≤ sizeLine) : Ev K F (tOp (rCatA K) ta tb) σ (Tup.mk (x.items ++ y.items)) := fun c H a ok Q q =>
  ev2 ha hb a ok fun v w H' s k r1 r2 => by
    obtain ⟨b, vs, rfl, hs, hr⟩ := rp_tup r1
    obtain ⟨d, ws, rfl, hs2, hr2⟩ := rp_tup r2
    refine ⟨b, d, vs, ws, rfl, rfl, sqt_le hs, sqt_le hs2, by rw [hr.length, hr2.length]; exact hz, fun e => ?_, fun _ e => ?_, fun _ _ p np => q _ _ (s.trans (same_new np)) (rp_mkT (sqt_new k np) ((hr.append hr2).mono (same_new np).hid))⟩
    · have e2 : x.items = [] := List.length_eq_zero_iff.mp (by rw [← hr.length, e]; rfl)
      refine q _ H' s ?_
      rw [e2, List.nil_append]
      exact r2
    · have e2 : y.items = [] := List.length_eq_zero_iff.mp (by rw [← hr2.length, e]; rfl)
      refine q _ H' s ?_
      rw [e2, List.append_nil]
      exact r1
end
end Sp

set_option Elab.async false
set_option linter.all false
set_option maxRecDepth 100000
set_option maxHeartbeats 2000000
/-! sources of items at the level of the walk: a zip of any number of them, told once; it may keep its tuple or hand it out again -/
namespace Sp
open PySem PySem.Spec PyProof.Rows L2
open PySem.W (Datum DatumOrd Tup)

def StopAt (h : Heap) (e : Addr) : Prop := ∃ o, h.get? e = some o ∧ o.cls = .type "StopIteration"
structure Dr (P : Program) (w : World) (K : PySem.W.Frag) (J : It) (fp : List Addr) (it : Addr) (tn : Nat → Heap → Prop) : Prop where
  mem : it ∈ fp
  obj : ∀ i h, tn i h → ∀ b ∈ fp, ∃ o, h.get? b = some o ∧ ∀ v, o.data ≠ .cell v
  keep : ∀ i h h', tn i h → (∀ b ∈ fp, ∀ o, h.get? b = some o → h'.get? b = some o) → tn i h'
  item : ∀ (X : Cx), X.prog = P → X.w = w → X.K = K → ∀ (i : Nat) (pins : List (Addr × Obj)) (s : Shared) (σ : L2.St) (H : Hp) (A : Around) (E : Value → Shared → Prop) (Q : Value → Shared → Prop),
    Inv X pins σ H s → (∀ b ∈ fp, FpOk X pins H b) → tn i s.heap → J.go i H →
    (∀ u x H' s', Inv X pins σ H' s' → RelV x u → J.yld i H x H' → tn (i + 1) s'.heap → (∀ b, b < s.heap.objs.size → H b = none → H' b = none) → s.heap.objs.size ≤ s'.heap.objs.size →
      (∀ c o, c ∉ fp → s.heap.get? c = some o → s'.heap.get? c = some o) → Q u s') → wpAny (model P w) A (Builtin.SmallTypes.nextOf (.ref it)) Q E s
  done : ∀ (X : Cx), X.prog = P → X.w = w → X.K = K → ∀ (i : Nat) (pins : List (Addr × Obj)) (s : Shared) (σ : L2.St) (H : Hp) (A : Around) (E : Value → Shared → Prop) (Q : Value → Shared → Prop),
    A.handled = none → Inv X pins σ H s → (∀ b ∈ fp, FpOk X pins H b) → tn i s.heap → J.stop i H →
    (∀ e s', Inv X pins σ H s' → StopAt s'.heap e → (∀ c o, c ∉ fp → s.heap.get? c = some o → s'.heap.get? c = some o) → E (.ref e) s') → wpAny (model P w) A (Builtin.SmallTypes.nextOf (.ref it)) Q E s
theorem dr_list {P : Program} {w : World} {K : PySem.W.Frag} (a it : Addr) : Dr P w K (Itl K a) [it] it (fun i h => h.IsListIter it a i) where
  mem := by simp
  obj := fun i h st b hb => by
    have e : b = it := by simpa using hb
    subst e
    obtain ⟨o, e, c, d⟩ := st
    exact ⟨o, e, fun v z => by rw [d] at z; cases z⟩
  keep := fun i h h' st k => st.at fun o e => k it (by simp) o e
  item := by
    intro X hP hw hK i pins s σ H A E Q I hf st hg q
    subst hP hw hK
    obtain ⟨xs, x, hq, hx⟩ := hg
    obtain ⟨its, rv, p, hz⟩ := I.list hq
    obtain ⟨u, hu, ru⟩ := rv.get hx
    obtain ⟨f0, f1, f2, f3, f4, f5⟩ := hf it (by simp)
    refine wpAny_nextOf_list_item st p.isList (x := u) (by simpa using hu) fun h' st' sb => ?_
    have I1 : Inv X pins σ H { s with heap := h' } := I.turned (t' := s.toks) (fun b o hb e => (sb.2 b hb).trans e) f0 f1 f3 f4 f5
    exact q u x H _ I1 ru ⟨rfl, fun ys hy => by rw [I.list_inj hy hq]; exact hx⟩ st' (fun b _ n => n) (Nat.le_of_eq sb.1.symm) fun c o hc e => sb.extBut _ _ (by simpa using hc) e
  done := by
    intro X hP hw hK i pins s σ H A E Q hA I hf st hg q
    subst hP hw hK
    obtain ⟨xs, hq, hx⟩ := hg
    obtain ⟨its, rv, p, hz⟩ := I.list hq
    obtain ⟨f0, f1, f2, f3, f4, f5⟩ := hf it (by simp)
    have hl := rv.length
    exact wpAny_nextOf_list_end hA st p.isList (by simp; omega) fun h' e eb he => q e _ (I.turned (t' := s.toks) (fun b o hb e => eb b o hb e) f0 f1 f3 f4 f5) he fun c o hc x => eb c o (by simpa using hc) x
theorem dr_tup {P : Program} {w : World} {K : PySem.W.Frag} (a it : Addr) : Dr P w K (Itt K a) [it] it (fun i h => h.IsTupleIter it a i) where
  mem := by simp
  obj := fun i h st b hb => by
    have e : b = it := by simpa using hb
    subst e
    obtain ⟨o, e, c, d⟩ := st
    exact ⟨o, e, fun v z => by rw [d] at z; cases z⟩
  keep := fun i h h' st k => st.at fun o e => k it (by simp) o e
  item := by
    intro X hP hw hK i pins s σ H A E Q I hf st hg q
    subst hP hw hK
    obtain ⟨xs, x, hq, hx⟩ := hg
    obtain ⟨its, rv, p, hz⟩ := I.tuple hq
    obtain ⟨u, hu, ru⟩ := rv.get hx
    obtain ⟨f0, f1, f2, f3, f4, f5⟩ := hf it (by simp)
    refine wpAny_nextOf_tuple_item st (show s.heap.IsTuple a its.toArray from p) (x := u) (by simpa using hu) fun h' st' sb => ?_
    have I1 : Inv X pins σ H { s with heap := h' } := I.turned (t' := s.toks) (fun b o hb e => (sb.2 b hb).trans e) f0 f1 f3 f4 f5
    exact q u x H _ I1 ru ⟨rfl, fun ys hy => by rw [I.tuple_inj hy hq]; exact hx⟩ st' (fun b _ n => n) (Nat.le_of_eq sb.1.symm) fun c o hc e => sb.extBut _ _ (by simpa using hc) e
  done := by
    intro X hP hw hK i pins s σ H A E Q hA I hf st hg q
    subst hP hw hK
    obtain ⟨xs, hq, hx⟩ := hg
    obtain ⟨its, rv, p, hz⟩ := I.tuple hq
    obtain ⟨f0, f1, f2, f3, f4, f5⟩ := hf it (by simp)
    have hl := rv.length
    exact wpAny_nextOf_tuple_end hA st (show s.heap.IsTuple a its.toArray from p) (by simp; omega) fun h' e eb he => q e _ (I.turned (t' := s.toks) (fun b o hb e => eb b o hb e) f0 f1 f3 f4 f5) he fun c o hc x => eb c o (by simpa using hc) x

/-- a source: what it yields, its cells -/
structure Sr where
  J : It
  fp : List Addr
  it : Addr
  tn : Nat → Heap → Prop
abbrev Sr.Ok (P : Program) (w : World) (K : PySem.W.Frag) (r : Sr) : Prop := Dr P w K r.J r.fp r.it r.tn
inductive Chn (i : Nat) : List It → Hp → List V → Hp → Prop
  | nil {H : Hp} : Chn i [] H [] H
  | cons {J : It} {rs : List It} {H H1 H2 : Hp} {x : V} {xs : List V} : J.yld i H x H1 → Chn i rs H1 xs H2 → Chn i (J :: rs) H (x :: xs) H2
def ChnGo (i : Nat) : List It → Hp → Prop
  | [], _ => True
  | J :: rs, H => J.go i H ∧ ∀ x H1, J.yld i H x H1 → ChnGo i rs H1
def ItN (Js : List It) : It :=
  ⟨fun i H => ChnGo i Js H, fun i H v H' => ∃ xs H1 T, Chn i Js H xs H1 ∧ v = .ref T ∧ H1 T = none ∧ H' = upd H1 T (.tup xs), fun i H => ∃ J rs, Js = J :: rs ∧ J.stop i H⟩
/-- the zip's own cells and those of its sources lie apart -/
structure Apt (z TI TO : Addr) (Ss : List Sr) : Prop where
  TIz : TI ≠ z
  TOz : TO ≠ z
  TITO : TI ≠ TO
  off : ∀ r ∈ Ss, z ∉ r.fp ∧ TI ∉ r.fp ∧ TO ∉ r.fp
  sep : Ss.Pairwise fun a b => ∀ c, c ∈ a.fp → c ∉ b.fp
abbrev IsZ (h : Heap) (z TI TO : Addr) (v : Value) (f : Bool) : Prop :=
  h.get? z = some { cls := .type "zip", dict := none, data := .fields #[v, .bool f, .bool false, .ref TI, .ref TO], slots := #[] }
def tnZ (z TI TO : Addr) (Ss : List Sr) (i : Nat) (h : Heap) : Prop :=
  (∃ v f, (v = .none ∨ ∃ T : Addr, v = rawInt T) ∧ IsZ h z TI TO v f) ∧ h.get? TI = some { cls := .type "tuple", data := .seq (Ss.map fun r => Value.ref r.it).toArray } ∧
  (∃ vs : List Value, vs.length = Ss.length ∧ h.get? TO = some { cls := .type "tuple", data := .seq vs.toArray }) ∧ ∀ r ∈ Ss, r.tn i h
def fpZ (z TI TO : Addr) (Ss : List Sr) : List Addr := z :: TI :: TO :: (Ss.map (·.fp)).flatten
theorem mem_fps {Ss : List Sr} {b : Addr} : b ∈ (Ss.map (·.fp)).flatten ↔ ∃ r ∈ Ss, b ∈ r.fp := by
  simp only [List.mem_flatten, List.mem_map]
  constructor
  · rintro ⟨_, ⟨r, hr, rfl⟩, hb⟩
    exact ⟨r, hr, hb⟩
  · rintro ⟨r, hr, hb⟩
    exact ⟨_, ⟨r, hr, rfl⟩, hb⟩

section
variable {P : Program} {w : World} {K : PySem.W.Frag} {X : Cx} {pins : List (Addr × Obj)} {σ : L2.St} {A : Around} {E : Value → Shared → Prop} {i : Nat}
theorem FpOk.at {H H' : Hp} {b : Addr} (h : FpOk X pins H b) (n : H' b = none) : FpOk X pins H' b := ⟨n, h.2⟩
/-- the sources drawn one after the other, the items put behind those that are there -/
theorem loop_held {f : Value → Option Fin × Array Value → Sem (ForInStep (Option Fin × Array Value))}
    (hf : ∀ (it : Addr) (items : Array Value) (s : Shared) (E : Value → Shared → Prop) (Q : ForInStep (Option Fin × Array Value) → Shared → Prop),
      wpAny (model P w) A (Builtin.SmallTypes.nextOf (.ref it)) (fun x s' => Q (.yield (none, items.push x)) s') E s → wpAny (model P w) A (f (.ref it) (none, items)) Q E s)
    (hP : X.prog = P) (hw : X.w = w) (hK : X.K = K) : ∀ (Ss : List Sr) (H : Hp) (s : Shared) (items : Array Value) (Q : Option Fin × Array Value → Shared → Prop),
    (∀ r ∈ Ss, r.Ok P w K) → (Ss.Pairwise fun a b => ∀ c, c ∈ a.fp → c ∉ b.fp) → Inv X pins σ H s → (∀ r ∈ Ss, ∀ b ∈ r.fp, FpOk X pins H b) → (∀ r ∈ Ss, r.tn i s.heap) → ChnGo i (Ss.map (·.J)) H →
    (∀ us xs H' s', Inv X pins σ H' s' → Vals xs us → Chn i (Ss.map (·.J)) H xs H' → (∀ r ∈ Ss, r.tn (i + 1) s'.heap) → (∀ b, b < s.heap.objs.size → H b = none → H' b = none) → s.heap.objs.size ≤ s'.heap.objs.size →
      (∀ c o, (∀ r ∈ Ss, c ∉ r.fp) → s.heap.get? c = some o → s'.heap.get? c = some o) → Q (none, items ++ us.toArray) s') →
    wpAny (model P w) A (forIn (Ss.map fun r => Value.ref r.it) ((none, items) : Option Fin × Array Value) f) Q E s
  | [], H, s, items, Q, _, _, I, _, _, _, q => by
    rw [List.map_nil, List.forIn_nil]
    refine wpAny_pure ?_
    have := q [] [] H s I .nil .nil (by simp) (fun b _ n => n) (Nat.le_refl _) fun c o _ e => e
    simpa using this
  | r :: Ss, H, s, items, Q, hok, hsep, I, hfp, htn, hgo, q => by
    rw [List.map_cons, List.forIn_cons]
    have D := hok r (by simp)
    have st := htn r (by simp)
    have hlt : ∀ b ∈ r.fp, b < s.heap.objs.size := fun b hb => by
      obtain ⟨o, e, _⟩ := D.obj _ _ st b hb
      exact Heap.lt_size e
    rw [List.pairwise_cons] at hsep
    refine wpAny_bind (hf _ _ _ _ _ (D.item X hP hw hK i pins s σ H A _ _ I (hfp r (by simp)) st hgo.1 fun u x H1 s1 I1 r1 y1 st1 n1 hsz k1 => ?_))
    show wpAny _ _ (forIn _ _ _) _ _ _

    refine loop_held hf hP hw hK Ss H1 s1 (items.push u) Q (fun r' hr' => hok r' (by simp [hr'])) hsep.2 I1 (fun r' hr' b hb => ?_) (fun r' hr' => ?_) (hgo.2 x H1 y1) fun us xs H2 s2 I2 rv2 c2 tn2 n2 z2 k2 => ?_
    · have h0 := hfp r' (by simp [hr']) b hb
      obtain ⟨o, e, _⟩ := (hok r' (by simp [hr'])).obj _ _ (htn r' (by simp [hr'])) b hb
      exact FpOk.at h0 (n1 b (Heap.lt_size e) h0.1)
    · exact (hok r' (by simp [hr'])).keep _ _ _ (htn r' (by simp [hr'])) fun b hb o e => k1 b o (fun z => hsep.1 r' hr' b z hb) e
    · have := q (u :: us) (x :: xs) H2 s2 I2 (.cons r1 rv2) (.cons y1 c2) (fun r' hr' => ?_) (fun b hb n => n2 b (Nat.lt_of_lt_of_le hb hsz) (n1 b hb n)) (Nat.le_trans hsz z2) fun c o hc e => k2 c o (fun r' hr' => hc r' (by simp [hr'])) (k1 c o (hc r (by simp)) e)
      · have e : items.push u ++ us.toArray = items ++ (u :: us).toArray := by
          apply Array.ext'
          simp
        rw [e]
        exact this
      · rcases List.mem_cons.mp hr' with rfl | hr'
        · exact D.keep _ _ _ st1 fun b hb o e => k2 b o (fun r'' hr'' => hsep.1 r'' hr'' b hb) e
        · exact tn2 r' hr'
/-- the same where the zip's own tuple at TO takes the items -/
theorem loop_free {β : Type} {b0 : β} {TO : Addr} {f : Value × Nat → β → Sem (ForInStep β)}
    (hf : ∀ (it : Addr) (k : Nat) (s : Shared) (E : Value → Shared → Prop) (Q : ForInStep β → Shared → Prop),
      (∀ E', wpAny (model P w) A (Builtin.SmallTypes.nextOf (.ref it)) (fun x s' => ∃ vs : List Value, vs.length ≤ 1000 ∧ s'.heap.get? TO = some { cls := .type "tuple", data := .seq vs.toArray } ∧
        ∀ h', h'.get? TO = some { cls := .type "tuple", data := .seq (vs.set k x).toArray } → Heap.SameBut TO s'.heap h' → Q (.yield b0) { s' with heap := h' }) E' s) → wpAny (model P w) A (f (.ref it, k) b0) Q E s)
    (hP : X.prog = P) (hw : X.w = w) (hK : X.K = K) : ∀ (Ss : List Sr) (H : Hp) (s : Shared) (k : Nat) (us0 : List Value) (rest : List Value) (Q : β → Shared → Prop),
    us0.length = k → rest.length = Ss.length → us0.length + rest.length ≤ 1000 → s.heap.get? TO = some { cls := .type "tuple", data := .seq (us0 ++ rest).toArray } → FpOk X pins H TO → (∀ r ∈ Ss, TO ∉ r.fp) →
    (∀ r ∈ Ss, r.Ok P w K) → (Ss.Pairwise fun a b => ∀ c, c ∈ a.fp → c ∉ b.fp) → Inv X pins σ H s → (∀ r ∈ Ss, ∀ b ∈ r.fp, FpOk X pins H b) → (∀ r ∈ Ss, r.tn i s.heap) → ChnGo i (Ss.map (·.J)) H →
    (∀ us xs H' s', Inv X pins σ H' s' → Vals xs us → Chn i (Ss.map (·.J)) H xs H' → (∀ r ∈ Ss, r.tn (i + 1) s'.heap) → (∀ b, b < s.heap.objs.size → H b = none → H' b = none) → s.heap.objs.size ≤ s'.heap.objs.size →
      (∀ c o, c ≠ TO → (∀ r ∈ Ss, c ∉ r.fp) → s.heap.get? c = some o → s'.heap.get? c = some o) → s'.heap.get? TO = some { cls := .type "tuple", data := .seq (us0 ++ us).toArray } → Q b0 s') →
    wpAny (model P w) A (forIn ((Ss.map fun r => Value.ref r.it).zipIdx k) b0 f) Q E s
  | [], H, s, k, us0, rest, Q, hk, hr, hz, hTO, hTf, hTn, _, _, I, _, _, _, q => by
    rw [List.map_nil, List.zipIdx_nil, List.forIn_nil]
    refine wpAny_pure ?_
    have er : rest = [] := List.length_eq_zero_iff.mp hr
    subst er
    exact q [] [] H s I .nil .nil (by simp) (fun b _ n => n) (Nat.le_refl _) (fun c o _ _ e => e) hTO
  | r :: Ss, H, s, k, us0, [], Q, hk, hr, hz, hTO, hTf, hTn, hok, hsep, I, hfp, htn, hgo, q => by simp at hr
  | r :: Ss, H, s, k, us0, y :: rest, Q, hk, hr, hz, hTO, hTf, hTn, hok, hsep, I, hfp, htn, hgo, q => by
    rw [List.map_cons, List.zipIdx_cons, List.forIn_cons]
    have D := hok r (by simp)
    have st := htn r (by simp)
    rw [List.pairwise_cons] at hsep
    refine wpAny_bind (hf _ _ _ _ _ fun E' => D.item X hP hw hK i pins s σ H A E' _ I (hfp r (by simp)) st hgo.1 fun u x H1 s1 I1 r1 y1 st1 n1 hsz k1 => ⟨us0 ++ y :: rest, by simp at hz ⊢; omega, k1 TO _ (hTn r (by simp)) hTO, fun h2 t2 sb => ?_⟩)
    show wpAny _ _ (forIn _ _ _) _ _ _
    have hTf1 : FpOk X pins H1 TO := FpOk.at hTf (n1 TO (Heap.lt_size hTO) hTf.1)
    have I2 : Inv X pins σ H1 { s1 with heap := h2 } := I1.turnedL (t' := s1.toks) (ch := [TO]) (fun c o hc e => sb.extBut c o (by simpa using hc) e) (fun b hb => by
      have e : b = TO := by simpa using hb
      rw [e]
      exact hTf1)
    have e2 : (us0 ++ y :: rest).set k u = (us0 ++ [u]) ++ rest := by
      subst hk
      simp
    rw [e2] at t2
    have k2 : ∀ c o, c ≠ TO → c ∉ r.fp → s.heap.get? c = some o → h2.get? c = some o := fun c o hc hc2 e => sb.extBut c o hc (k1 c o hc2 e)
    refine loop_free hf hP hw hK Ss H1 { s1 with heap := h2 } (k + 1) (us0 ++ [u]) rest Q (by simp [hk]) (by simpa using hr) (by simp at hz ⊢; omega) t2 hTf1 (fun r' hr' => hTn r' (by simp [hr'])) (fun r' hr' => hok r' (by simp [hr'])) hsep.2 I2 (fun r' hr' b hb => ?_) (fun r' hr' => ?_) (hgo.2 x H1 y1) fun us xs H2 s2 I2 rv2 c2 tn2 n2 z2 k3 hTO2 => ?_
    · have h0 := hfp r' (by simp [hr']) b hb
      obtain ⟨o, e, _⟩ := (hok r' (by simp [hr'])).obj _ _ (htn r' (by simp [hr'])) b hb
      exact FpOk.at h0 (n1 b (Heap.lt_size e) h0.1)
    · exact (hok r' (by simp [hr'])).keep _ _ _ (htn r' (by simp [hr'])) fun b hb o e => k2 b o (fun z => hTn r' (by simp [hr']) (z ▸ hb)) (fun z => hsep.1 r' hr' b z hb) e
    · have hs2 : h2.objs.size = s1.heap.objs.size := sb.1
      refine q (u :: us) (x :: xs) H2 s2 I2 (.cons r1 rv2) (.cons y1 c2) (fun r' hr' => ?_) (fun b hb n => n2 b (by rw [show ({ s1 with heap := h2 } : Shared).heap.objs.size = s1.heap.objs.size from hs2]; exact Nat.lt_of_lt_of_le hb hsz) (n1 b hb n))
        (Nat.le_trans hsz (by rw [← hs2]; exact z2)) (fun c o hc0 hc e => k3 c o hc0 (fun r' hr' => hc r' (by simp [hr'])) (k2 c o hc0 (hc r (by simp)) e)) (by rw [hTO2]; simp)
      rcases List.mem_cons.mp hr' with rfl | hr'
      · exact D.keep _ _ _ st1 fun b hb o e => k3 b o (fun z => hTn _ (by simp) (z ▸ hb)) (fun r'' hr'' => hsep.1 r'' hr'' b hb) (sb.extBut b o (fun z => hTn _ (by simp) (z ▸ hb)) e)
      · exact tn2 r' hr'
end
end Sp

set_option Elab.async false
set_option linter.all false
set_option maxRecDepth 100000
set_option maxHeartbeats 2000000
namespace Sp
open PySem PySem.Spec PyProof.Rows L2
open PySem.W (Datum DatumOrd Tup)
section
variable {P : Program} {w : World} {K : PySem.W.Frag} {X : Cx} {pins : List (Addr × Obj)} {σ : L2.St} {A : Around} {E : Value → Shared → Prop} {i : Nat} {z TI TO : Addr} {Ss : List Sr}
theorem own_free {s : Shared} {v : Value} {f : Bool} {R : Bool → Shared → Prop} (hz : IsZ s.heap z TI TO v f) (hv : v = .none ∨ ∃ T : Addr, v = rawInt T) (h1 : R true s)
    (h2 : ∀ h', IsZ h' z TI TO v true → Heap.SameBut z s.heap h' → R false { s with heap := h' }) : wpAny (model P w) A (Builtin.SmallTypes.ownedTupleIsFree (.ref z)) R E s := by
  unfold Builtin.SmallTypes.ownedTupleIsFree
  refine wpAny_bind (wpAny_field hz rfl (x := v) rfl ?_)
  rcases hv with rfl | ⟨T, rfl⟩
  · exact wpAny_pure h1
  · show wpAny _ _ (loadIfAlive ((T : Int).toNat) >>= _) _ _ _
    rw [Int.toNat_natCast]
    refine wpAny_bind ?_
    have k : ∀ {Q : Option Obj → Shared → Prop}, Q (s.heap.get? T) s → wpAny (model P w) A (loadIfAlive T) Q E s := fun h' => fun _ _ _ => h'
    refine k ?_
    cases hT : s.heap.get? T with
    | none => exact wpAny_pure h1
    | some oT =>
      simp only [Option.isNone_some, Bool.false_eq_true, if_false]
      refine wpAny_bind (wpAny_field hz rfl (x := .bool f) rfl ?_)
      cases f with
      | true =>
        rw [if_neg (show ¬ ((Value.bool true != Value.bool true) = true) from Bool.false_ne_true)]
        exact wpAny_pure (h2 s.heap hz (Heap.SameBut.refl _ _))
      | false =>
        rw [if_pos (show (Value.bool false != Value.bool true) = true from rfl)]
        exact wpAny_bind (wpAny_setField_rec hz (by simp) fun h₁ hz₁ hs₁ => wpAny_pure (h2 h₁ hz₁ hs₁))
theorem Chn.length : ∀ {Js : List It} {H H' : Hp} {xs : List V}, Chn i Js H xs H' → xs.length = Js.length
  | _, _, _, _, .nil => rfl
  | _, _, _, _, .cons _ h => by rw [List.length_cons, List.length_cons, Chn.length h]
/-- the tuple that is handed out, laid -/
theorem laid_tup {H : Hp} {s : Shared} {xs : List V} {us : List Value} (I : Inv X pins σ H s) (rv : Vals xs us) (hl : us.length ≤ 1000) {h' : Heap} (k : ∀ b o, b ≠ z → s.heap.get? b = some o → h'.get? b = some o) (hz : FpOk X pins H z)
    (hT : h'.get? s.heap.objs.size = some { cls := .type "tuple", data := .seq us.toArray }) : Inv X pins σ (upd H s.heap.objs.size (.tup xs)) { s with heap := h' } :=
  I.turnedNew (t' := s.toks) (ch := [z]) (fun c o hb q => k c o (by simpa using hb) q) (fun b hb => by
    have e : b = z := by simpa using hb
    rw [e]
    exact hz) (Nat.le_refl _) ⟨by rw [rv.length]; exact Nat.le_trans hl (by decide), us, rv, ⟨_, hT, rfl, _, rfl⟩⟩
theorem zipN_next_item (D : Apt z TI TO Ss) (hn : Ss.length ≤ 1000) (hne : Ss ≠ []) (hok : ∀ r ∈ Ss, r.Ok P w K) (hP : X.prog = P) (hw : X.w = w) (hK : X.K = K) {H : Hp} {s : Shared} {Q : Value → Shared → Prop} (I : Inv X pins σ H s) (hfp : ∀ b ∈ fpZ z TI TO Ss, FpOk X pins H b)
    (st : tnZ z TI TO Ss i s.heap) (hgo : ChnGo i (Ss.map (·.J)) H)
    (q : ∀ u x H' s', Inv X pins σ H' s' → RelV x u → (ItN (Ss.map (·.J))).yld i H x H' → tnZ z TI TO Ss (i + 1) s'.heap → (∀ b, b < s.heap.objs.size → H b = none → H' b = none) → s.heap.objs.size ≤ s'.heap.objs.size →
      (∀ c o, c ∉ fpZ z TI TO Ss → s.heap.get? c = some o → s'.heap.get? c = some o) → Q u s') :
    wpAny (model P w) A (Builtin.«zip.__next__» ⟨[.ref z], []⟩) (fun fin s' => ∃ v, fin = .done (.ret v) ∧ Q v s') E s := by
  obtain ⟨⟨v, f, hv, hz⟩, hTI, ⟨vs, hvl, hTO⟩, htn⟩ := st
  have fz : FpOk X pins H z := hfp z (by simp [fpZ])
  have fTI : FpOk X pins H TI := hfp TI (by simp [fpZ])
  have fTO : FpOk X pins H TO := hfp TO (by simp [fpZ])
  have fr : ∀ r ∈ Ss, ∀ b ∈ r.fp, FpOk X pins H b := fun r hr b hb => hfp b (by simp only [fpZ, List.mem_cons]; exact .inr (.inr (.inr (mem_fps.mpr ⟨r, hr, hb⟩))))
  have nfp : ∀ {c}, c ∉ fpZ z TI TO Ss → c ≠ z ∧ c ≠ TI ∧ c ≠ TO ∧ ∀ r ∈ Ss, c ∉ r.fp := fun {c} hc => by
    simp only [fpZ, List.mem_cons, not_or, mem_fps] at hc
    exact ⟨hc.1, hc.2.1, hc.2.2.1, fun r hr hb => hc.2.2.2 ⟨r, hr, hb⟩⟩
  show wpAny _ _ (field (.ref z) 2 >>= _) _ _ _
  refine wpAny_bind (wpAny_field hz rfl (x := .bool false) rfl ?_)
  show wpAny _ _ (field (.ref z) 3 >>= _) _ _ _
  refine wpAny_bind (wpAny_field hz rfl (x := .ref TI) rfl ?_)
  refine wpAny_bind (wpAny_seqItems hTI rfl ?_)
  have hne2 : (Ss.map fun r => Value.ref r.it).toArray.isEmpty = false := by
    cases Ss with
    | nil => exact absurd rfl hne
    | cons r rs => rfl
  show wpAny _ _ (if _ then _ else _) _ _ _
  rw [if_neg (by rw [hne2]; exact Bool.false_ne_true)]
  show wpAny _ _ (Builtin.SmallTypes.ownedTupleIsFree (.ref z) >>= _) _ _ _
  refine wpAny_bind (own_free hz hv ?_ fun h1 hz1 hs1 => ?_)
  · simp only [if_true]
    refine wpAny_bind (wpAny_rule ?_)
    refine wpAny_bind (wpAny_field hz rfl (x := .ref TO) rfl ?_)
    refine wpAny_bind (wpAny_setField_rec hz (by simp) fun g0 hz0 hs0 => ?_)
    replace hz0 : IsZ g0 z TI TO .ellipsis f := hz0
    have I0 : Inv X pins σ H { s with heap := g0 } := I.turnedL (t' := s.toks) (ch := [z]) (fun c o hc e => hs0.extBut c o (by simpa using hc) e) (fun b hb => by
      have e : b = z := by simpa using hb
      rw [e]
      exact fz)
    refine wpAny_bind ?_
    refine loop_free (X := X) (pins := pins) (σ := σ) (TO := TO) (i := i) ?_ hP hw hK Ss H { s with heap := g0 } 0 [] vs _ rfl hvl (by simp [hvl, hn]) (by simpa using hs0.extBut _ _ D.TOz hTO) fTO (fun r hr => (D.off r hr).2.2) hok D.sep I0 fr
      (fun r hr => (hok r hr).keep _ _ _ (htn r hr) fun b hb o e => hs0.extBut b o (fun q => (D.off r hr).1 (q ▸ hb)) e) hgo fun us xs H' s' I1 rv c1 tn1 n1 z1 k1 t1 => ?_
    · intro it k s E' Q' h
      refine wpAny_bind (wpAny_onRaise ?_)
      show wpAny _ _ (Builtin.SmallTypes.nextOf (.ref it) >>= _) _ _ _
      refine wpAny_bind (wpAny_mono (h _) (fun x s' hx => wpAny_pure ?_) fun _ _ y => y)
      obtain ⟨vs', hl', hT', hq⟩ := hx
      refine wpAny_bind (wpAny_seqItems hT' rfl ?_)
      refine wpAny_bind (wpAny_updateSeq hT' rfl ?_ (by simp; exact Nat.le_trans hl' (by decide)) (by simp; exact Nat.le_trans hl' (by decide)))
      refine wpAny_bind (wpAny_letGo (wpAny_pure (hq _ ?_ (Heap.SameBut.update ..))))
      rw [Heap.get?_update_self _ hT' rfl]
      simp [Obj.mapSeq]
    · have hz2 : IsZ s'.heap z TI TO .ellipsis f := k1 z _ D.TOz.symm (fun r hr => (D.off r hr).1) hz0
      simp only [List.nil_append] at t1
      refine wpAny_bind (wpAny_seqItems t1 rfl ?_)
      have hul : us.length = Ss.length := by
        rw [← rv.length, c1.length, List.length_map]
      refine wpAny_bind (wpAny_newTuple ?_ (by simp; rw [hul]; exact Nat.le_trans hn (by decide)))
      have hzlt : z < s'.heap.objs.size := Heap.lt_size hz2
      have hz3 : IsZ (s'.heap.push { cls := .type "tuple", data := .seq us.toArray }) z TI TO .ellipsis f := Heap.get?_push_of_some _ hz2
      refine wpAny_bind ?_
      unfold Builtin.SmallTypes.ownedTupleHandOut
      refine wpAny_bind (wpAny_setField_rec hz3 (by simp) fun h₇ hz₇ hs₇ => ?_)
      replace hz₇ : IsZ h₇ z TI TO (rawInt s'.heap.objs.size) f := hz₇
      refine wpAny_setField_rec hz₇ (by simp) fun h₈ hz₈ hs₈ => ?_
      replace hz₈ : IsZ h₈ z TI TO (rawInt s'.heap.objs.size) false := hz₈
      replace hs₇ : Heap.SameBut z (s'.heap.push { cls := .type "tuple", data := .seq us.toArray }) h₇ := hs₇
      replace hs₈ : Heap.SameBut z h₇ h₈ := hs₈
      have up : ∀ c o, c ≠ z → s'.heap.get? c = some o → h₈.get? c = some o := fun c o c1 e => hs₈.extBut _ _ c1 (hs₇.extBut _ _ c1 (Heap.get?_push_of_some _ e))
      have hT₈ : h₈.get? s'.heap.objs.size = some { cls := .type "tuple", data := .seq us.toArray } := hs₈.extBut _ _ (Nat.ne_of_gt hzlt) (hs₇.extBut _ _ (Nat.ne_of_gt hzlt) (Heap.get?_push_size _ rfl))
      have sz8 : h₈.objs.size = s'.heap.objs.size + 1 := by rw [hs₈.1, hs₇.1, Heap.size_push]
      have sz0 : g0.objs.size = s.heap.objs.size := hs0.1
      have hzs : z < s.heap.objs.size := Heap.lt_size hz
      have fz1 : FpOk X pins H' z := FpOk.at fz (n1 z (by rw [show ({ s with heap := g0 } : Shared).heap.objs.size = s.heap.objs.size from sz0]; exact hzs) fz.1)
      have I8 := laid_tup I1 rv (by omega) (h' := h₈) up fz1 hT₈
      have all : ∀ c o, c ∉ fpZ z TI TO Ss → s.heap.get? c = some o → h₈.get? c = some o := fun c o hc e => by
        obtain ⟨c1, c2, c3, c4⟩ := nfp hc
        exact up c o c1 (k1 c o c3 c4 (hs0.extBut _ _ c1 e))
      refine wpAny_pure ⟨_, rfl, ?_⟩
      refine q _ (.ref s'.heap.objs.size) _ _ I8 rfl ⟨xs, H', s'.heap.objs.size, c1, rfl, I1.hok.fresh (Nat.le_refl _), rfl⟩ ⟨⟨_, _, .inr ⟨_, rfl⟩, hz₈⟩, ?_, ⟨us, hul, up _ _ D.TOz t1⟩, fun r hr => ?_⟩ (fun b hb n => ?_) ?_ all
      · exact up _ _ D.TIz (k1 _ _ D.TITO (fun r hr => (D.off r hr).2.1) (hs0.extBut _ _ D.TIz hTI))
      · exact (hok r hr).keep _ _ _ (tn1 r hr) fun b hb o e => up b o (fun q => (D.off r hr).1 (q ▸ hb)) e
      · have := n1 b (by rw [show ({ s with heap := g0 } : Shared).heap.objs.size = s.heap.objs.size from sz0]; exact hb) n
        have hz1 : s.heap.objs.size ≤ s'.heap.objs.size := by rw [← sz0]; exact z1
        rw [upd_ne (Nat.ne_of_lt (Nat.lt_of_lt_of_le hb hz1))]
        exact this
      · have hz1 : s.heap.objs.size ≤ s'.heap.objs.size := by rw [← sz0]; exact z1
        show s.heap.objs.size ≤ h₈.objs.size
        omega
  · simp only [Bool.false_eq_true, if_false]
    have I0 : Inv X pins σ H { s with heap := h1 } := I.turnedL (t' := s.toks) (ch := [z]) (fun c o hc e => hs1.extBut c o (by simpa using hc) e) (fun b hb => by
      have e : b = z := by simpa using hb
      rw [e]
      exact fz)
    refine wpAny_bind ?_
    rw [← Array.forIn_toList]
    refine loop_held (X := X) (pins := pins) (σ := σ) (i := i) ?_ hP hw hK Ss H { s with heap := h1 } #[] _ hok D.sep I0 fr
      (fun r hr => (hok r hr).keep _ _ _ (htn r hr) fun b hb o e => hs1.extBut b o (fun q => (D.off r hr).1 (q ▸ hb)) e) hgo fun us xs H' s' I1 rv c1 tn1 n1 z1 k1 => ?_
    · intro it items s E' Q' h
      refine wpAny_bind (wpAny_holding ?_)
      show wpAny _ _ (Builtin.SmallTypes.nextOf (.ref it) >>= _) _ _ _
      exact wpAny_bind (wpAny_mono h (fun x s' hx => wpAny_pure (wpAny_pure hx)) fun _ _ y => y)
    · have hz2 : IsZ s'.heap z TI TO v true := k1 z _ (fun r hr => (D.off r hr).1) hz1
      have hul : us.length = Ss.length := by
        rw [← rv.length, c1.length, List.length_map]
      have eul : (#[] ++ us.toArray : Array Value).toList = us := by simp
      show wpAny _ _ (newTuple (#[] ++ us.toArray : Array Value).toList >>= _) _ _ _
      rw [eul]
      refine wpAny_bind (wpAny_newTuple ?_ (by rw [hul]; exact Nat.le_trans hn (by decide)))
      have sz0 : h1.objs.size = s.heap.objs.size := hs1.1
      have hz1' : s.heap.objs.size ≤ s'.heap.objs.size := by rw [← sz0]; exact z1
      have hzs : z < s.heap.objs.size := Heap.lt_size hz
      have up : ∀ c o, s'.heap.get? c = some o → (s'.heap.push { cls := .type "tuple", data := .seq us.toArray }).get? c = some o := fun c o e => Heap.get?_push_of_some _ e
      have fz1 : FpOk X pins H' z := FpOk.at fz (n1 z (by rw [show ({ s with heap := h1 } : Shared).heap.objs.size = s.heap.objs.size from sz0]; exact hzs) fz.1)
      have I8 := laid_tup I1 rv (by omega) (z := z) (h' := s'.heap.push { cls := .type "tuple", data := .seq us.toArray }) (fun c o _ e => up c o e) fz1 (Heap.get?_push_size _ rfl)
      refine wpAny_pure ⟨_, rfl, ?_⟩
      refine q _ (.ref s'.heap.objs.size) _ _ I8 rfl ⟨xs, H', s'.heap.objs.size, c1, rfl, I1.hok.fresh (Nat.le_refl _), rfl⟩ ⟨⟨_, _, hv, up _ _ hz2⟩, ?_, ⟨vs, hvl, ?_⟩, fun r hr => ?_⟩ (fun b hb n => ?_) ?_ fun c o hc e => ?_
      · exact up _ _ (k1 _ _ (fun r hr => (D.off r hr).2.1) (hs1.extBut _ _ D.TIz hTI))
      · exact up _ _ (k1 _ _ (fun r hr => (D.off r hr).2.2) (hs1.extBut _ _ D.TOz hTO))
      · exact (hok r hr).keep _ _ _ (tn1 r hr) fun b hb o e => up b o e
      · have := n1 b (by rw [show ({ s with heap := h1 } : Shared).heap.objs.size = s.heap.objs.size from sz0]; exact hb) n
        rw [upd_ne (Nat.ne_of_lt (Nat.lt_of_lt_of_le hb hz1'))]
        exact this
      · show s.heap.objs.size ≤ (s'.heap.push _).objs.size
        rw [Heap.size_push]
        omega
      · obtain ⟨c1, c2, c3, c4⟩ := nfp hc
        exact up c o (k1 c o c4 (hs1.extBut _ _ c1 e))
end
end Sp

set_option Elab.async false
set_option linter.all false
set_option maxRecDepth 100000
set_option maxHeartbeats 2000000
namespace Sp
open PySem PySem.Spec PyProof.Rows L2
open PySem.W (Datum DatumOrd Tup)
section
variable {P : Program} {w : World} {K : PySem.W.Frag} {X : Cx} {pins : List (Addr × Obj)} {σ : L2.St} {A : Around} {E : Value → Shared → Prop} {i : Nat} {z TI TO : Addr} {Ss : List Sr}
theorem zipN_next_end (D : Apt z TI TO Ss) (hok : ∀ r ∈ Ss, r.Ok P w K) (hP : X.prog = P) (hw : X.w = w) (hK : X.K = K) (hA : A.handled = none) {H : Hp} {s : Shared} {Q : Fin → Shared → Prop} (I : Inv X pins σ H s) (hfp : ∀ b ∈ fpZ z TI TO Ss, FpOk X pins H b)
    (st : tnZ z TI TO Ss i s.heap) (hstop : (ItN (Ss.map (·.J))).stop i H)
    (q : ∀ e s', Inv X pins σ H s' → StopAt s'.heap e → (∀ c o, c ∉ fpZ z TI TO Ss → s.heap.get? c = some o → s'.heap.get? c = some o) → E (.ref e) s') :
    wpAny (model P w) A (Builtin.«zip.__next__» ⟨[.ref z], []⟩) Q E s := by
  obtain ⟨⟨v, f, hv, hz⟩, hTI, ⟨vs, hvl, hTO⟩, htn⟩ := st
  obtain ⟨J, rs, eJ, hstop⟩ := hstop
  cases Ss with
  | nil => cases eJ
  | cons r Ss =>
  rw [List.map_cons] at eJ
  obtain ⟨rfl, rfl⟩ : r.J = J ∧ Ss.map (·.J) = rs := by
    injection eJ with h1 h2
    exact ⟨h1, h2⟩
  have fz : FpOk X pins H z := hfp z (by simp [fpZ])
  have fr : ∀ b ∈ r.fp, FpOk X pins H b := fun b hb => hfp b (by simp only [fpZ, List.mem_cons]; exact .inr (.inr (.inr (mem_fps.mpr ⟨r, by simp, hb⟩))))
  have nfp : ∀ {c}, c ∉ fpZ z TI TO (r :: Ss) → c ≠ z ∧ c ∉ r.fp := fun {c} hc => by
    simp only [fpZ, List.mem_cons, not_or, mem_fps] at hc
    exact ⟨hc.1, fun hb => hc.2.2.2 ⟨r, .inl rfl, hb⟩⟩
  show wpAny _ _ (field (.ref z) 2 >>= _) _ _ _
  refine wpAny_bind (wpAny_field hz rfl (x := .bool false) rfl ?_)
  show wpAny _ _ (field (.ref z) 3 >>= _) _ _ _
  refine wpAny_bind (wpAny_field hz rfl (x := .ref TI) rfl ?_)
  refine wpAny_bind (wpAny_seqItems hTI rfl ?_)
  show wpAny _ _ (if _ then _ else _) _ _ _
  rw [if_neg (by exact Bool.false_ne_true)]
  show wpAny _ _ (Builtin.SmallTypes.ownedTupleIsFree (.ref z) >>= _) _ _ _
  refine wpAny_bind (own_free hz hv ?_ fun h1 hz1 hs1 => ?_)
  · simp only [if_true]
    refine wpAny_bind (wpAny_rule ?_)
    refine wpAny_bind (wpAny_field hz rfl (x := .ref TO) rfl ?_)
    refine wpAny_bind (wpAny_setField_rec hz (by simp) fun g0 hz0 hs0 => ?_)
    replace hz0 : IsZ g0 z TI TO .ellipsis f := hz0
    have I0 : Inv X pins σ H { s with heap := g0 } := I.turnedL (t' := s.toks) (ch := [z]) (fun c o hc e => hs0.extBut c o (by simpa using hc) e) (fun b hb => by
      have e : b = z := by simpa using hb
      rw [e]
      exact fz)
    refine wpAny_bind ?_
    simp only [List.map_cons, List.zipIdx_cons, List.forIn_cons]
    refine wpAny_bind (wpAny_bind (wpAny_onRaise ?_))
    show wpAny _ _ (Builtin.SmallTypes.nextOf (.ref r.it) >>= _) _ _ _
    refine wpAny_bind ((hok r (by simp)).done X hP hw hK i pins { s with heap := g0 } σ H A _ _ hA I0 fr ((hok r (by simp)).keep _ _ _ (htn r (by simp)) fun b hb o e => hs0.extBut b o (fun q => (D.off r (by simp)).1 (q ▸ hb)) e) hstop fun e s1 I1 he k1 => ?_)
    have hz2 : IsZ s1.heap z TI TO .ellipsis f := k1 z _ (D.off r (by simp)).1 hz0
    obtain ⟨o, ho, hc⟩ := he
    have hez : e ≠ z := fun x => by subst x; rw [hz2] at ho; cases ho; simp at hc
    refine wpAny_setField_rec hz2 (by simp) fun q' hz3 hs3 => ?_
    exact q e _ (I1.turnedL (t' := s1.toks) (ch := [z]) (fun c o hc e => hs3.extBut c o (by simpa using hc) e) (fun b hb => by
      have e : b = z := by simpa using hb
      rw [e]
      exact fz)) ⟨o, hs3.extBut _ _ hez ho, hc⟩ fun c o hc e => hs3.extBut c o (nfp hc).1 (k1 c o (nfp hc).2 (hs0.extBut c o (nfp hc).1 e))
  · simp only [Bool.false_eq_true, if_false]
    have I0 : Inv X pins σ H { s with heap := h1 } := I.turnedL (t' := s.toks) (ch := [z]) (fun c o hc e => hs1.extBut c o (by simpa using hc) e) (fun b hb => by
      have e : b = z := by simpa using hb
      rw [e]
      exact fz)
    refine wpAny_bind ?_
    rw [← Array.forIn_toList]
    simp only [List.map_cons, List.forIn_cons]
    refine wpAny_bind (wpAny_bind (wpAny_holding ?_))
    show wpAny _ _ (Builtin.SmallTypes.nextOf (.ref r.it) >>= _) _ _ _
    refine wpAny_bind ((hok r (by simp)).done X hP hw hK i pins { s with heap := h1 } σ H A _ _ hA I0 fr ((hok r (by simp)).keep _ _ _ (htn r (by simp)) fun b hb o e => hs1.extBut b o (fun q => (D.off r (by simp)).1 (q ▸ hb)) e) hstop fun e s1 I1 he k1 => ?_)
    exact q e _ I1 he fun c o hc e => k1 c o (nfp hc).2 (hs1.extBut c o (nfp hc).1 e)
theorem tnZ_obj (hok : ∀ r ∈ Ss, r.Ok P w K) {h : Heap} (st : tnZ z TI TO Ss i h) : ∀ b ∈ fpZ z TI TO Ss, ∃ o, h.get? b = some o ∧ ∀ v, o.data ≠ .cell v := by
  obtain ⟨⟨v, f, hv, hz⟩, hTI, ⟨vs, hvl, hTO⟩, htn⟩ := st
  intro b hb
  simp only [fpZ, List.mem_cons, mem_fps] at hb
  rcases hb with rfl | rfl | rfl | ⟨r, hr, hb⟩
  · exact ⟨_, hz, fun v q => nomatch q⟩
  · exact ⟨_, hTI, fun v q => nomatch q⟩
  · exact ⟨_, hTO, fun v q => nomatch q⟩
  · exact (hok r hr).obj _ _ (htn r hr) b hb
theorem tnZ_keep (hok : ∀ r ∈ Ss, r.Ok P w K) {h h' : Heap} (st : tnZ z TI TO Ss i h) (k : ∀ b ∈ fpZ z TI TO Ss, ∀ o, h.get? b = some o → h'.get? b = some o) : tnZ z TI TO Ss i h' := by
  obtain ⟨⟨v, f, hv, hz⟩, hTI, ⟨vs, hvl, hTO⟩, htn⟩ := st
  exact ⟨⟨v, f, hv, k z (by simp [fpZ]) _ hz⟩, k TI (by simp [fpZ]) _ hTI, ⟨vs, hvl, k TO (by simp [fpZ]) _ hTO⟩, fun r hr => (hok r hr).keep _ _ _ (htn r hr) fun b hb => k b (by simp only [fpZ, List.mem_cons]; exact .inr (.inr (.inr (mem_fps.mpr ⟨r, hr, hb⟩))))⟩
/-- a zip is a source -/
theorem dr_zip (D : Apt z TI TO Ss) (hn : Ss.length ≤ 1000) (hne : Ss ≠ []) (hok : ∀ r ∈ Ss, r.Ok P w K) : Dr P w K (ItN (Ss.map (·.J))) (fpZ z TI TO Ss) z (tnZ z TI TO Ss) where
  mem := by simp [fpZ]
  obj := fun i h st => tnZ_obj hok st
  keep := fun i h h' st k => tnZ_keep hok st k
  item := by
    intro X hP hw hK i pins s σ H A E Q I hf st hg q
    have hz := st.1
    obtain ⟨v, f, hv, hz⟩ := hz
    have hT : s.TypeIs (.ref z) "zip" := ⟨_, hz, rfl⟩
    unfold Builtin.SmallTypes.nextOf
    exact wpAny_bind (wpAny_callSpecial?_slot (name := Str.ofString "__next__") hT F.slot_zip_next
      (wpAny_call_entry F.slot_zip_next hT F.entry_zip_next
        (zipN_next_item D hn hne hok hP hw hK I hf st hg fun u x H' s' a1 a2 a3 a4 a5 a6 a7 => wpAny_pure (q u x H' s' a1 a2 a3 a4 a5 a6 a7)) (F.args_zip_next_1 _)))
  done := by
    intro X hP hw hK i pins s σ H A E Q hA I hf st hg q
    have hz := st.1
    obtain ⟨v, f, hv, hz⟩ := hz
    have hT : s.TypeIs (.ref z) "zip" := ⟨_, hz, rfl⟩
    unfold Builtin.SmallTypes.nextOf
    exact wpAny_bind (wpAny_callSpecial?_slot (name := Str.ofString "__next__") hT F.slot_zip_next
      (wpAny_call_entry F.slot_zip_next hT F.entry_zip_next
        (zipN_next_end D hok hP hw hK (show A.in1.handled = none from hA) I hf st hg q) (F.args_zip_next_1 _)))
theorem letGoZ {s : Shared} {v u : Value} {f : Bool} {tg : Expr} {Q : Unit → Shared → Prop} (hz : IsZ s.heap z TI TO v f) (h : ∀ h' v', (v' = .none ∨ v' = v) → IsZ h' z TI TO v' f → Heap.SameBut z s.heap h' → Q () { s with heap := h' }) :
    wpAny (model P w) A (letOwnedTupleGo tg (.ref z) u) Q E s := by
  have h0 : Q () s := h s.heap v (.inr rfl) hz (Heap.SameBut.refl _ _)
  have key : ∀ a : Addr, wpAny (model P w) A (do
      let o ← load z
      match o.cls, o.data with
      | .type n, .fields vs =>
        if ["enumerate", "zip", "dict_itemiterator", "dict_reverseitemiterator", "odict_iterator", "itertools.zip_longest", "itertools.pairwise"].contains n && vs[0]? == some (rawInt a) then
          rule "for.unpacks-the-owned-tuple"
          updateField z 0 .none
      | _, _ => pure ()) Q E s := fun a => by
    refine wpAny_bind (wpAny_load hz ?_)
    show wpAny _ _ (if (["enumerate", "zip", "dict_itemiterator", "dict_reverseitemiterator", "odict_iterator", "itertools.zip_longest", "itertools.pairwise"].contains "zip" &&
      (#[v, .bool f, .bool false, .ref TI, .ref TO] : Array Value)[0]? == some (rawInt a)) = true then _ else _) Q E s
    split
    · refine wpAny_bind (wpAny_rule ?_)
      show wpAny _ _ (setField (.ref z) 0 .none) Q E s
      exact wpAny_setField_rec hz (by simp) fun h' hz' hs' => h h' .none (.inl rfl) hz' hs'
    · exact wpAny_pure h0
  unfold letOwnedTupleGo
  cases tg <;> first
    | exact wpAny_pure h0
    | (cases u <;> first
        | exact wpAny_pure h0
        | exact key _)
theorem turn_zipN {tg : Expr} (D : Apt z TI TO Ss) (hn : Ss.length ≤ 1000) (hne : Ss ≠ []) (hok : ∀ r ∈ Ss, r.Ok P w K) : Turn P w K tg (ItN (Ss.map (·.J))) (fpZ z TI TO Ss) z (tnZ z TI TO Ss) where
  mem := by simp [fpZ]
  obj := fun i h st => tnZ_obj hok st
  keep := fun i h h' st k => tnZ_keep hok st k
  item := by
    intro X hP hw hK hc i pins s σ H E I hf st hg
    have hz := st.1
    obtain ⟨v, f, hv, hz⟩ := hz
    have hT : s.TypeIs (.ref z) "zip" := ⟨_, hz, rfl⟩
    unfold pyNext
    refine wpAny_bind (wpAny_attempt (wpAny_callSpecial?_slot (name := Str.ofString "__next__") hT F.slot_zip_next
      (wpAny_call_entry F.slot_zip_next hT F.entry_zip_next
        (zipN_next_item D hn hne hok hP hw hK I hf st hg fun u x H' s' I1 r1 y1 st1 n1 z1 k1 => wpAny_pure ⟨u, rfl, ?_⟩) (F.args_zip_next_1 _))))
    obtain ⟨⟨v1, f1, hv1, hz1⟩, hTI, ⟨vs, hvl, hTO⟩, htn⟩ := id st1
    have nf : ∀ b ∈ fpZ z TI TO Ss, H' b = none := fun b hb => by
      obtain ⟨o, e, _⟩ := tnZ_obj hok st b hb
      exact n1 b (Heap.lt_size e) (hf b hb).1
    refine letGoZ hz1 fun h' v' hv' hz2 hs => ⟨x, H', I1.turnedL (t' := s'.toks) (ch := [z]) (fun c o hc e => hs.extBut c o (by simpa using hc) e) (fun b hb => by
        have e : b = z := by simpa using hb
        rw [e]
        exact FpOk.at (hf z (by simp [fpZ])) (nf z (by simp [fpZ]))), r1, y1, ⟨⟨v', f1, ?_, hz2⟩, hs.extBut _ _ D.TIz hTI, ⟨vs, hvl, hs.extBut _ _ D.TOz hTO⟩, fun r hr => (hok r hr).keep _ _ _ (htn r hr) fun b hb o e => hs.extBut b o (fun q => (D.off r hr).1 (q ▸ hb)) e⟩, nf⟩
    rcases hv' with e | e
    · exact .inl e
    · rw [e]
      exact hv1
  done := by
    intro X hP hw hK hc i pins s σ H E I hf st hg
    have hz := st.1
    obtain ⟨v, f, hv, hz⟩ := hz
    have hT : s.TypeIs (.ref z) "zip" := ⟨_, hz, rfl⟩
    unfold pyNext
    refine wpAny_bind (wpAny_attempt (wpAny_callSpecial?_slot (name := Str.ofString "__next__") hT F.slot_zip_next
      (wpAny_call_entry F.slot_zip_next hT F.entry_zip_next (zipN_next_end D hok hP hw hK (show X.A.in1.handled = none from I.ok.hd hc) I hf st hg fun e s' I1 he k1 => ?_) (F.args_zip_next_1 _))))
    obtain ⟨o, ho, hc⟩ := he
    refine wpAny_bind (wpAny_isInstance (T := "StopIteration") (b := true) ⟨o, ho, hc⟩ isSubtype_stop ?_)
    exact wpAny_pure ⟨rfl, I1⟩
  self := fun A i s Q E st h => by
    obtain ⟨v, f, hv, hz⟩ := st.1
    have hT : s.TypeIs (.ref z) "zip" := ⟨_, hz, rfl⟩
    refine wpAny_pyIter_slot hT F.slot_zip_iter (wpAny_call_entry F.slot_zip_iter hT F.entry_zip_iter ?_ (F.args_zip_iter_1 _))
    show wpAny _ _ (ret (.ref z)) _ _ s
    exact wpAny_pure ⟨_, rfl, "zip", _, hT, F.slot_zip_next.lookup, h⟩
end
end Sp

set_option Elab.async false
set_option linter.all false
set_option maxRecDepth 100000
set_option maxHeartbeats 2000000
namespace Sp
open PySem PySem.Spec PyProof.Rows L2
open PySem.W (Datum DatumOrd Tup)
theorem zip_tc (us : List Value) : checkTypeCall "zip" ⟨us, []⟩ = pure () := by kernel_rfl
theorem zip_nc : ∀ (us : List Value), us.length ≤ 6 → checkBuiltinCall "zip.__new__" ⟨.type "zip" :: us, []⟩ = pure ()
  | [], _ => by kernel_rfl
  | [_], _ => by kernel_rfl
  | [_, _], _ => by kernel_rfl
  | [_, _, _], _ => by kernel_rfl
  | [_, _, _, _], _ => by kernel_rfl
  | [_, _, _, _, _], _ => by kernel_rfl
  | [_, _, _, _, _, _], _ => by kernel_rfl
  | _ :: _ :: _ :: _ :: _ :: _ :: _ :: _, h => absurd h (by simp)
theorem zip_oi (obj : Value) : ∀ (us : List Value), us.length ≤ 6 → argsOk "object.__init__" ⟨obj :: us, []⟩
  | [], _ => by unfold argsOk; kernel_rfl
  | [_], _ => by unfold argsOk; kernel_rfl
  | [_, _], _ => by unfold argsOk; kernel_rfl
  | [_, _, _], _ => by unfold argsOk; kernel_rfl
  | [_, _, _, _], _ => by unfold argsOk; kernel_rfl
  | [_, _, _, _, _], _ => by unfold argsOk; kernel_rfl
  | [_, _, _, _, _, _], _ => by unfold argsOk; kernel_rfl
  | _ :: _ :: _ :: _ :: _ :: _ :: _ :: _, h => absurd h (by simp)
section
variable {P : Program} {w : World} {K : PySem.W.Frag} {X : Cx} {pins : List (Addr × Obj)} {σ : L2.St} {A : Around} {E : Value → Shared → Prop} {H : Hp}
/-- iter(u) is a source of J; old: the cells it had before -/
def Stt (P : Program) (w : World) (K : PySem.W.Frag) (X : Cx) (pins : List (Addr × Obj)) (σ : L2.St) (H : Hp) (old : List Addr) (s0 : Shared) (u : Value) (J : It) : Prop :=
  ∀ s1, Inv X pins σ H s1 → (∀ b o, s0.heap.get? b = some o → s1.heap.get? b = some o) → ∀ (A : Around) (E Q : Value → Shared → Prop),
    (∀ (r : Sr) s2, r.J = J → r.Ok P w K → Inv X pins σ H s2 → (∀ b o, s1.heap.get? b = some o → s2.heap.get? b = some o) → r.tn 0 s2.heap → (∀ b ∈ r.fp, FpOk X pins H b ∧ (s1.heap.objs.size ≤ b ∨ b ∈ old)) → Q (.ref r.it) s2) → wpAny (model P w) A (pyIter u) Q E s1
theorem stt_list {a : Addr} {xs : List V} {s0 : Shared} (hP : X.prog = P) (hw : X.w = w) (hK : X.K = K) (I : Inv X pins σ H s0) (h : SqL K H a xs) : Stt P w K X pins σ H [] s0 (.ref a) (Itl K a) := by
  subst hP hw hK
  intro s1 I1 k A E Q q
  obtain ⟨its, rv, p, hz⟩ := I1.list h
  refine wpAny_pyIter_list p.isList ?_
  refine q ⟨Itl X.K a, [s1.heap.objs.size], s1.heap.objs.size, fun i h => h.IsListIter s1.heap.objs.size a i⟩ _ rfl (dr_list a _) (I1.kept (t' := s1.toks) fun b o e => Heap.get?_push_of_some _ e) (fun b o e => Heap.get?_push_of_some _ e) ⟨_, Heap.get?_push_size _ rfl, rfl, rfl⟩ fun b hb => ?_
  have e : b = s1.heap.objs.size := by simpa using hb
  subst e
  exact ⟨I1.fpOk (Nat.le_refl _) (I1.hok.fresh (Nat.le_refl _)), .inl (Nat.le_refl _)⟩
theorem stt_tup {a : Addr} {xs : List V} {s0 : Shared} (hP : X.prog = P) (hw : X.w = w) (hK : X.K = K) (I : Inv X pins σ H s0) (h : SqT K H a xs) : Stt P w K X pins σ H [] s0 (.ref a) (Itt K a) := by
  subst hP hw hK
  intro s1 I1 k A E Q q
  obtain ⟨its, rv, p, hz⟩ := I1.tuple h
  refine wpAny_pyIter_tuple (show s1.heap.IsTuple a its.toArray from p) ?_
  refine q ⟨Itt X.K a, [s1.heap.objs.size], s1.heap.objs.size, fun i h => h.IsTupleIter s1.heap.objs.size a i⟩ _ rfl (dr_tup a _) (I1.kept (t' := s1.toks) fun b o e => Heap.get?_push_of_some _ e) (fun b o e => Heap.get?_push_of_some _ e) ⟨_, Heap.get?_push_size _ rfl, rfl, rfl⟩ fun b hb => ?_
  have e : b = s1.heap.objs.size := by simpa using hb
  subst e
  exact ⟨I1.fpOk (Nat.le_refl _) (I1.hok.fresh (Nat.le_refl _)), .inl (Nat.le_refl _)⟩
theorem stt_zip {z TI TO : Addr} {Ss : List Sr} {s0 : Shared} (D : Apt z TI TO Ss) (hn : Ss.length ≤ 1000) (hne : Ss ≠ []) (hok : ∀ r ∈ Ss, r.Ok P w K) (st : tnZ z TI TO Ss 0 s0.heap) (hf : ∀ b ∈ fpZ z TI TO Ss, FpOk X pins H b) :
    Stt P w K X pins σ H (fpZ z TI TO Ss) s0 (.ref z) (ItN (Ss.map (·.J))) := by
  intro s1 I1 k A E Q q
  have st1 := tnZ_keep hok st fun b _ o e => k b o e
  refine (turn_zipN (tg := .Constant .none default default) D hn hne hok).self A 0 s1 Q E st1 ?_
  exact q ⟨ItN (Ss.map (·.J)), fpZ z TI TO Ss, z, tnZ z TI TO Ss⟩ s1 rfl (dr_zip D hn hne hok) I1 (fun _ _ e => e) st1 fun b hb => ⟨hf b hb, .inr hb⟩
theorem loop_iter {f : Value → Array Value → Sem (ForInStep (Array Value))}
    (hf : ∀ (u : Value) (items : Array Value) (s : Shared) (E : Value → Shared → Prop) (Q : ForInStep (Array Value) → Shared → Prop), wpAny (model P w) A (pyIter u) (fun x s' => Q (.yield (items.push x)) s') E s → wpAny (model P w) A (f u items) Q E s) {s0 : Shared} :
    ∀ {us : List Value} {Js : List It}, Paired (fun u J => Stt P w K X pins σ H [] s0 u J) us Js → ∀ (Ss0 : List Sr) (s : Shared) (Q : Array Value → Shared → Prop), Inv X pins σ H s → (∀ b o, s0.heap.get? b = some o → s.heap.get? b = some o) →
    (∀ r ∈ Ss0, r.Ok P w K ∧ r.tn 0 s.heap ∧ ∀ b ∈ r.fp, FpOk X pins H b) → (Ss0.Pairwise fun a b => ∀ c, c ∈ a.fp → c ∉ b.fp) →
    (∀ (Ss : List Sr) s2, Ss.map (·.J) = Ss0.map (·.J) ++ Js → Inv X pins σ H s2 → (∀ b o, s.heap.get? b = some o → s2.heap.get? b = some o) → (∀ r ∈ Ss, r.Ok P w K ∧ r.tn 0 s2.heap ∧ ∀ b ∈ r.fp, FpOk X pins H b) → (Ss.Pairwise fun a b => ∀ c, c ∈ a.fp → c ∉ b.fp) →
      Q (Ss.map fun r => Value.ref r.it).toArray s2) → wpAny (model P w) A (forIn us (Ss0.map fun r => Value.ref r.it).toArray f) Q E s
  | _, _, .nil, Ss0, s, Q, I, k0, h0, hsep, q => by
    rw [List.forIn_nil]
    exact wpAny_pure (q Ss0 s (by simp) I (fun _ _ e => e) h0 hsep)
  | _, _, .cons (a := u) (b := J) h1 h2, Ss0, s, Q, I, k0, h0, hsep, q => by
    rw [List.forIn_cons]
    refine wpAny_bind (hf _ _ _ _ _ (h1 s I k0 A _ _ fun r s2 hJ hr I2 k2 t2 f2 => ?_))
    show wpAny _ _ (forIn _ _ _) _ _ _
    have e : (Ss0.map fun r => Value.ref r.it).toArray.push (.ref r.it) = ((Ss0 ++ [r]).map fun r => Value.ref r.it).toArray := by simp
    rw [e]
    refine loop_iter hf h2 (Ss0 ++ [r]) s2 Q I2 (fun b o e => k2 b o (k0 b o e)) (fun r' hr' => ?_) ?_ fun Ss s3 hJs I3 k3 h3 hs3 => q Ss s3 (by rw [hJs, List.map_append]; simp [hJ]) I3 (fun b o e => k3 b o (k2 b o e)) h3 hs3
    · rcases List.mem_append.mp hr' with hr' | hr'
      · obtain ⟨a1, a2, a3⟩ := h0 r' hr'
        exact ⟨a1, a1.keep _ _ _ a2 fun b _ o e => k2 b o e, a3⟩
      · have e : r' = r := by simpa using hr'
        subst e
        exact ⟨hr, t2, fun b hb => (f2 b hb).1⟩
    · rw [List.pairwise_append]
      refine ⟨hsep, by simp, fun a ha b hb c hca hcb => ?_⟩
      have e : b = r := by simpa using hb
      subst e
      rcases (f2 c hcb).2 with h | h
      · obtain ⟨a1, a2, a3⟩ := h0 a ha
        obtain ⟨o, e, _⟩ := a1.obj _ _ a2 c hca
        exact absurd (Heap.lt_size e) (Nat.not_lt.mpr h)
      · cases h
/-- zip(u, ..) has come -/
theorem call_zipN {u : Value} {us : List Value} {J : It} {Js : List It} {old : List Addr} {s : Shared} {Q : Value → Shared → Prop} (hl : us.length ≤ 5) (I : Inv X pins σ H s) (h1 : Stt P w K X pins σ H old s u J) (h2 : Paired (fun u J => Stt P w K X pins σ H [] s u J) us Js)
    (hold : ∀ b ∈ old, b < s.heap.objs.size)
    (q : ∀ z TI TO (Ss : List Sr) s2, Ss.map (·.J) = J :: Js → Inv X pins σ H s2 → Apt z TI TO Ss → (∀ r ∈ Ss, r.Ok P w K) → tnZ z TI TO Ss 0 s2.heap → (∀ b ∈ fpZ z TI TO Ss, FpOk X pins H b) → Q (.ref z) s2) :
    wpAny (model P w) A (call (.type "zip") (u :: us)) Q E s := by
  refine callType_newIn (S := fun A R s => wpAny (model P w) A.in1 (Builtin.«zip.__new__» ⟨.type "zip" :: u :: us, []⟩) (fun fin s' => match fin with | .done f => R (.ok f) s' | .again c' => c'.quiet = true ∧ codeAny (model P w) A c' R s') (fun e s' => R (.error e) s') s)
    F.called_zip (by decide) (zip_tc _) (zip_nc _ (by simp; omega)) (fun obj => zip_oi obj _ (by simp; omega)) F.entry_zip_new (fun A R s h => h) ?_
  have hsub := sub_zip
  obtain ⟨hp, g, d, tk, os⟩ := s
  unfold Builtin.«zip.__new__» Builtin.SmallTypes.newClass Builtin.SmallTypes.iterAll
  iterate 12 (any_goals (first | assumption | wp_step))
  rw [List.forIn_cons]
  refine wpAny_bind (wpAny_bind (wpAny_holding (h1 ⟨hp, g, d, tk, os⟩ I (fun _ _ e => e) _ _ _ fun r s2 hJ hr I2 k2 t2 f2 => wpAny_pure ?_)))
  show wpAny _ _ (forIn _ _ _) _ _ _
  have e0 : (#[] : Array Value).push (.ref r.it) = ([r].map fun r => Value.ref r.it).toArray := by simp
  rw [e0]
  refine loop_iter (X := X) (pins := pins) (σ := σ) (H := H) (K := K) (s0 := ⟨hp, g, d, tk, os⟩) ?_ h2 [r] s2 _ I2 k2 (fun r' hr' => ?_) (by simp) fun Ss s3 hJs I3 k3 h3 hs3 => ?_
  · intro u items s E Q h
    exact wpAny_bind (wpAny_holding (wpAny_mono h (fun x s' hx => wpAny_pure hx) fun _ _ y => y))
  · have e : r' = r := by simpa using hr'
    subst e
    exact ⟨hr, t2, fun b hb => (f2 b hb).1⟩
  have hSl : Ss.length = us.length + 1 := by
    have e := congrArg List.length hJs
    simp only [List.length_map, List.length_append, List.length_cons, List.length_nil] at e
    rw [e, Paired.length h2]
    omega
  have hbig : Ss.length ≤ sizeLine := Nat.le_trans (by omega) (show 6 ≤ sizeLine by decide)
  obtain ⟨hp3, g3, d3, tk3, os3⟩ := s3
  refine wpAny_pure ?_
  show wpAny _ _ (newTuple (Ss.map fun r => Value.ref r.it).toArray.toList >>= _) _ _ _
  refine wpAny_bind (wpAny_newTuple ?_ (by simpa using hbig))
  refine wpAny_bind (wpAny_newTuple ?_ (by simpa using hbig))
  refine wpAny_bind (m := Builtin.SmallTypes.newRecord _ _) ?_
  show wpAny _ _ (newObj (.type "zip") (.fields #[.none, .bool false, .bool false, _, _])) _ _ _
  refine wpAny_newObj_type ?_ (by size_fits)
  refine wpAny_pure ?_
  have e1 : (Ss.map fun r => Value.ref r.it).toArray.toList.toArray = (Ss.map fun r => Value.ref r.it).toArray := by simp
  have e2 : ((Ss.map fun r => Value.ref r.it).toArray.toList.map fun _ => Value.none).length = Ss.length := by simp
  show (Shared.TypeIs _ _ "zip" ∧ Q _ _)
  simp only [e1]
  generalize hvs : ((Ss.map fun r => Value.ref r.it).toArray.toList.map fun _ => Value.none) = vs at e2 ⊢
  generalize hA1 : hp3.push { cls := Value.type "tuple", data := Data.seq (Ss.map fun r => Value.ref r.it).toArray } = g1
  generalize hA2 : g1.push { cls := Value.type "tuple", data := Data.seq vs.toArray } = g2
  have z1 : g1.objs.size = hp3.objs.size + 1 := by rw [← hA1, Heap.size_push]
  have z2 : g2.objs.size = hp3.objs.size + 2 := by rw [← hA2, Heap.size_push, z1]
  have k1 : ∀ b o, hp3.get? b = some o → g1.get? b = some o := fun b o e => by rw [← hA1]; exact Heap.get?_push_of_some _ e
  have k12 : ∀ b o, g1.get? b = some o → g2.get? b = some o := fun b o e => by rw [← hA2]; exact Heap.get?_push_of_some _ e
  have kz : ∀ b o, g2.get? b = some o → (g2.push { cls := Value.type "zip", data := Data.fields #[Value.none, Value.bool false, Value.bool false, Value.ref hp3.objs.size, Value.ref g1.objs.size] }).get? b = some o := fun b o e => Heap.get?_push_of_some _ e
  have gT : g1.get? hp3.objs.size = some { cls := Value.type "tuple", data := Data.seq (Ss.map fun r => Value.ref r.it).toArray } := by rw [← hA1]; exact Heap.get?_push_size _ rfl
  have gO : g2.get? g1.objs.size = some { cls := Value.type "tuple", data := Data.seq vs.toArray } := by rw [← hA2]; exact Heap.get?_push_size _ rfl
  have gZ := Heap.get?_push_size g2 (show (Obj.isFreed { cls := Value.type "zip", data := Data.fields #[Value.none, Value.bool false, Value.bool false, Value.ref hp3.objs.size, Value.ref g1.objs.size] }) = false from rfl)
  have lt : ∀ r ∈ Ss, ∀ b ∈ r.fp, b < hp3.objs.size := fun r hr b hb => by
    obtain ⟨a1, a2, a3⟩ := h3 r hr
    obtain ⟨o, e, _⟩ := a1.obj _ _ a2 b hb
    exact Heap.lt_size e
  refine ⟨⟨_, gZ, rfl⟩, q g2.objs.size hp3.objs.size g1.objs.size Ss _ ?_ (I3.kept (t' := tk3) fun b o e => kz b o (k12 b o (k1 b o e))) ⟨Nat.ne_of_lt (by omega), Nat.ne_of_lt (by omega), Nat.ne_of_lt (by omega), fun r hr => ⟨fun hb => ?_, fun hb => ?_, fun hb => ?_⟩, hs3⟩ (fun r hr => (h3 r hr).1)
    ⟨⟨_, _, .inl rfl, gZ⟩, kz _ _ (k12 _ _ gT), ⟨vs, e2, kz _ _ gO⟩, fun r hr => (h3 r hr).1.keep _ _ _ (h3 r hr).2.1 fun b _ o e => kz b o (k12 b o (k1 b o e))⟩ fun b hb => ?_⟩
  · rw [hJs]
    simp [hJ]
  · exact absurd (lt r hr _ hb) (Nat.not_lt.mpr (by omega))
  · exact absurd (lt r hr _ hb) (Nat.not_lt.mpr (by omega))
  · exact absurd (lt r hr _ hb) (Nat.not_lt.mpr (by omega))
  · simp only [fpZ, List.mem_cons, mem_fps] at hb
    have fr : ∀ c, hp3.objs.size ≤ c → FpOk X pins H c := fun c hc => I3.fpOk hc (I3.hok.fresh hc)
    rcases hb with e | e | e | ⟨r, hr, hb⟩
    · exact fr _ (by rw [e]; omega)
    · exact fr _ (by rw [e]; exact Nat.le_refl _)
    · exact fr _ (by rw [e]; omega)
    · exact (h3 r hr).2.2 b hb
end
end Sp

set_option Elab.async false
set_option linter.all false
set_option maxRecDepth 100000
set_option maxHeartbeats 2000000
namespace Sp
open PySem PySem.Spec PyProof.Rows L2
open PySem.W (Datum DatumOrd Tup)

/-! ### what is walked: a list, a tuple, a range, a zip -/
def iSeqX (K : PySem.W.Frag) (tl : TE) : TI := fun σ H R => tl σ H fun x H1 => ∃ a vs, x = .ref a ∧ ((SqL K H1 a vs ∧ (vs.length ≤ sizeLine → R (Itl K a) H1)) ∨ (SqT K H1 a vs ∧ (vs.length ≤ sizeLine → R (Itt K a) H1)))
/-- the arguments of a zip -/
def ZArg (K : PySem.W.Frag) (H : Hp) (v : V) (J : It) : Prop := ∃ a vs, v = .ref a ∧ ((SqL K H a vs ∧ J = Itl K a) ∨ (SqT K H a vs ∧ J = Itt K a))
def ZLen (K : PySem.W.Frag) (H : Hp) (v : V) : Prop := ∀ a vs, v = .ref a → SqL K H a vs ∨ SqT K H a vs → vs.length ≤ sizeLine
def iZipX (K : PySem.W.Frag) (ta : TA) : TI := fun σ H R => ta σ H fun vs H1 => vs ≠ [] ∧ vs.length ≤ 6 ∧ ∃ Js, Paired (ZArg K H1) vs Js ∧ ((∀ v ∈ vs, ZLen K H1 v) → R (ItN Js) H1)
/-- zip(zip(..), x) -/
def iZipZ (K : PySem.W.Frag) (ta : TA) (tb : TE) : TI := fun σ H R => ta σ H fun vs H1 => vs ≠ [] ∧ vs.length ≤ 6 ∧ ∃ Js, Paired (ZArg K H1) vs Js ∧ ((∀ v ∈ vs, ZLen K H1 v) → tb σ H1 fun w H2 => ∃ J2, ZArg K H2 w J2 ∧ R (ItN [ItN Js, J2]) H2)
section
variable {X : Cx} {tg : Expr}
theorem pi_seqX {l : Expr} {tl : TE} (hl : PE X l tl) : PI X tg l (iSeqX X.K tl) := by
  refine ⟨fun pins s σ H R I h => ?_⟩
  refine thn (hl.run pins s σ H _ I h) fun v s1 ⟨x, H1, I1, r1, q1⟩ => ?_
  obtain ⟨a, vs, e, q⟩ := q1
  subst e
  cases r1
  rcases q with ⟨hq, q⟩ | ⟨hq, q⟩
  · obtain ⟨its, rv, p, hz⟩ := I1.list hq
    refine wpAny_pyIter_list p.isList ?_
    refine ⟨s1.heap.objs.size, [s1.heap.objs.size], _, _, H1, rfl, I1.kept (t' := s1.toks) fun b o e => Heap.get?_push_of_some _ e, turn_list a _, ⟨_, Heap.get?_push_size _ rfl, rfl, rfl⟩, fun b hb => ?_, q hz⟩
    have e : b = s1.heap.objs.size := by simpa using hb
    subst e
    exact I1.fpOk (Nat.le_refl _) (I1.hok.fresh (Nat.le_refl _))
  · obtain ⟨its, rv, p, hz⟩ := I1.tuple hq
    refine wpAny_pyIter_tuple (show s1.heap.IsTuple a its.toArray from p) ?_
    refine ⟨s1.heap.objs.size, [s1.heap.objs.size], _, _, H1, rfl, I1.kept (t' := s1.toks) fun b o e => Heap.get?_push_of_some _ e, turn_tuple a _, ⟨_, Heap.get?_push_size _ rfl, rfl, rfl⟩, fun b hb => ?_, q hz⟩
    have e : b = s1.heap.objs.size := by simpa using hb
    subst e
    exact I1.fpOk (Nat.le_refl _) (I1.hok.fresh (Nat.le_refl _))
theorem zlen {pins : List (Addr × Obj)} {σ : L2.St} {H : Hp} {s : Shared} (I : Inv X pins σ H s) (v : V) : ZLen X.K H v := fun a vs _ h => by
  rcases h with h | h
  · obtain ⟨its, rv, p, hz⟩ := I.list h
    exact hz
  · obtain ⟨its, rv, p, hz⟩ := I.tuple h
    exact hz
theorem zargs {pins : List (Addr × Obj)} {σ : L2.St} {H : Hp} {s : Shared} (I : Inv X pins σ H s) : ∀ {vs : List V} {us : List Value} {Js : List It}, Vals vs us → Paired (ZArg X.K H) vs Js → Paired (fun u J => Stt X.prog X.w X.K X pins σ H [] s u J) us Js
  | _, _, _, .nil, .nil => .nil
  | _, _, _, .cons r rv, .cons h hs => by
    refine .cons ?_ (zargs I rv hs)
    obtain ⟨a, vs, rfl, h⟩ := h
    cases r
    rcases h with ⟨h, rfl⟩ | ⟨h, rfl⟩
    · exact stt_list rfl rfl rfl I h
    · exact stt_tup rfl rfl rfl I h
/-- the zip called on values -/
theorem zip_called {pins : List (Addr × Obj)} {σ : L2.St} {H : Hp} {s : Shared} {E : Value → Shared → Prop} {vs : List V} {us : List Value} {Js : List It} {Q : Value → Shared → Prop} (I : Inv X pins σ H s) (rv : Vals vs us) (hne : vs ≠ []) (hl : vs.length ≤ 6) (hp : Paired (ZArg X.K H) vs Js)
    (q : ∀ z TI TO (Ss : List Sr) s2, Ss.map (·.J) = Js → Inv X pins σ H s2 → Apt z TI TO Ss → Ss.length ≤ 1000 → Ss ≠ [] → (∀ r ∈ Ss, r.Ok X.prog X.w X.K) → tnZ z TI TO Ss 0 s2.heap → (∀ b ∈ fpZ z TI TO Ss, FpOk X pins H b) → Q (.ref z) s2) :
    wpAny (model X.prog X.w) X.A (call (.type "zip") us) Q E s := by
  have hz := zargs I rv hp
  cases hz with
  | nil =>
    cases rv
    exact absurd rfl hne
  | cons h1 h2 =>
    rename_i u J us Js
    have hlu : us.length ≤ 5 := by
      have := rv.length
      simp at this
      omega
    refine call_zipN hlu I h1 h2 (by simp) fun z TI TO Ss s2 a1 a2 a3 a4 a5 a6 => ?_
    have hS : Ss.length = us.length + 1 := by
      have e := congrArg List.length a1
      simp only [List.length_map, List.length_cons] at e
      rw [e, Paired.length h2]
    exact q z TI TO Ss s2 a1 a2 a3 (by omega) (by intro e; subst e; simp at hS) a4 a5 a6
theorem zip_pie {pins : List (Addr × Obj)} {σ : L2.St} {H : Hp} {E : Value → Shared → Prop} {R : It → Hp → Prop} {z TI TO : Addr} {Ss : List Sr} {s2 : Shared} {Js : List It} (a1 : Ss.map (·.J) = Js) (I2 : Inv X pins σ H s2) (D : Apt z TI TO Ss) (hn : Ss.length ≤ 1000) (hne : Ss ≠ []) (hok : ∀ r ∈ Ss, r.Ok X.prog X.w X.K) (st : tnZ z TI TO Ss 0 s2.heap)
    (hf : ∀ b ∈ fpZ z TI TO Ss, FpOk X pins H b) (q : R (ItN Js) H) : wpAny (model X.prog X.w) X.A (pyIter (.ref z)) (PIE X pins σ tg R) E s2 := by
  subst a1
  exact (turn_zipN (tg := tg) D hn hne hok).self X.A 0 s2 _ E st ⟨z, fpZ z TI TO Ss, tnZ z TI TO Ss, _, H, rfl, I2, turn_zipN D hn hne hok, st, hf, q⟩
theorem pi_zipX {e : Expr} {es : List Expr} {ta : TA} {p pos : Pos} (hg : Gl X "zip") (hm : X.mg "zip" = none) (ha : PA X (e :: es) ta)
    (hs : starEach (e :: es) X.env = (false, eval e X.env) :: starEach es X.env := by rfl) (hpl : (backTo pos (starEach es X.env)).any (·.1) = false := by rfl) : PI X tg (.Call (.Name "zip" p) (e :: es) [] pos) (iZipX X.K ta) := by
  refine ⟨fun pins s σ H R I h => ?_⟩
  refine Call_ (ld_blt I hg hm PyProof.Rows.boot_zip (PyProof.Rows.callWith_type1 (thn (ha.run pos pins s σ H _ I h) fun us s1 ⟨vs, H1, I1, r1, hne, hl, Js, hp, q1⟩ => ?_) hs hpl))
  exact zip_called I1 r1 hne hl hp fun z TI TO Ss s2 a1 a2 a3 a4 a5 a6 a7 a8 => zip_pie a1 a2 a3 a4 a5 a6 a7 a8 (q1 fun v _ => zlen I1 v)
theorem type_looks {M : Model} {T : String} : ∀ h : Heap, True → ∃ k, (k = Keeper.frame ∨ k = Keeper.machine ∨ k = Keeper.boundFrame) ∧ PySem.W.Looks M h (keeperOf (.type T)) k := fun h _ => ⟨.machine, .inr (.inl rfl), PySem.W.Looks.of_pure rfl⟩
/-- *e, alone -/
def tStar1 (K : PySem.W.Frag) (te : TE) : TA := fun σ H Q => te σ H fun x H1 => ∃ p xs, x = V.ref p ∧ (SqT K H1 p xs ∨ SqL K H1 p xs) ∧ Q xs H1
theorem zip_star_call {e : Expr} {te : TE} {p pos sp_ : Pos} {pins : List (Addr × Obj)} {s : Shared} {σ : L2.St} {H : Hp} {R : Value → Shared → Prop} {Q : List V → Hp → Prop} (he : PE X e te) (hg : Gl X "zip") (hm : X.mg "zip" = none) (I : Inv X pins σ H s) (h : tStar1 X.K te σ H Q)
    (k : ∀ us s1 vs H1, Inv X pins σ H1 s1 → Vals vs us → Q vs H1 → wpAny (model X.prog X.w) X.A (call (.type "zip") us) R X.xe s1)
    (hst : starEach [.Starred e sp_] X.env = [(true, eval e X.env)] := by rfl) : wpAny (model X.prog X.w) X.A (eval (.Call (.Name "zip" p) [.Starred e sp_] [] pos) X.env) R X.xe s := by
  refine Call_ (ld_blt I hg hm PyProof.Rows.boot_zip ?_)
  rw [hst]
  refine PySem.W.ks_call (P := fun _ => True) rfl type_looks (PySem.W.ks_lone (thn (he.run pins s σ H _ I h) fun v s1 ⟨y, H1, I1, ry, a, xs, ey, hx, q⟩ => ?_))
  subst ey
  obtain rfl : v = Value.ref a := ry
  exact StX.star_any I1 hx fun us s2 I2 rv => ⟨trivial, k us s2 xs H1 I2 rv q⟩
theorem pi_zipS {e : Expr} {te : TE} {p pos sp_ : Pos} (hg : Gl X "zip") (hm : X.mg "zip" = none) (he : PE X e te) (hst : starEach [.Starred e sp_] X.env = [(true, eval e X.env)] := by rfl) : PI X tg (.Call (.Name "zip" p) [.Starred e sp_] [] pos) (iZipX X.K (tStar1 X.K te)) := by
  refine ⟨fun pins s σ H R I h => ?_⟩
  refine zip_star_call he hg hm I h (fun us s1 vs H1 I1 rv ⟨hne, hl, Js, hp, q1⟩ => ?_) hst
  exact zip_called I1 rv hne hl hp fun z TI TO Ss s2 a1 a2 a3 a4 a5 a6 a7 a8 => zip_pie a1 a2 a3 a4 a5 a6 a7 a8 (q1 fun v _ => zlen I1 v)
theorem pi_zipZ {e e2 : Expr} {te tb : TE} {p pos sp_ p2 pos2 : Pos} (hg : Gl X "zip") (hm : X.mg "zip" = none) (he : PE X e te) (he2 : PE X e2 tb) (hst : starEach [.Starred e sp_] X.env = [(true, eval e X.env)] := by rfl)
    (hs : starEach [.Call (.Name "zip" p) [.Starred e sp_] [] pos, e2] X.env = (false, eval (.Call (.Name "zip" p) [.Starred e sp_] [] pos) X.env) :: starEach [e2] X.env := by rfl) (hs2 : starEach [e2] X.env = (false, eval e2 X.env) :: starEach [] X.env := by rfl)
    (hpl : (backTo pos2 (starEach [e2] X.env)).any (·.1) = false := by rfl) :
    PI X tg (.Call (.Name "zip" p2) [.Call (.Name "zip" p) [.Starred e sp_] [] pos, e2] [] pos2) (iZipZ X.K (tStar1 X.K te) tb) := by
  refine ⟨fun pins s σ H R I h => ?_⟩
  refine Call_ (ld_blt I hg hm PyProof.Rows.boot_zip (PyProof.Rows.callWith_type1 (PyProof.Rows.args_cons ?_ hs) hs hpl))
  refine zip_star_call he hg hm I h (fun us s1 vs H1 I1 rv ⟨hne, hl, Js, hp, q1⟩ => ?_) hst
  refine zip_called I1 rv hne hl hp fun z TI TO Ss s2 a1 a2 a3 a4 a5 a6 a7 a8 => ?_
  have ob := tnZ_obj a6 a7
  have I2' := a2.pinned a8 ob
  refine PyProof.Rows.args_cons (thn (he2.run _ s2 σ H1 _ I2' (q1 fun v _ => zlen I1 v)) fun w s3 ⟨x, H3, I3, r3, J2, hJ2, q3⟩ => PyProof.Rows.args_nil ?_) hs2
  have kp : ∀ b ∈ fpZ z TI TO Ss, ∀ o, s2.heap.get? b = some o → s3.heap.get? b = some o ∧ H3 b = none := fun b hb o e =>
    let q := I3.pin (b, o) (List.mem_append_right _ (List.mem_append_right _ (mem_pinsAt hb e)))
    ⟨q.1, q.2.1⟩
  have st3 : tnZ z TI TO Ss 0 s3.heap := tnZ_keep a6 a7 fun b hb o e => (kp b hb o e).1
  have f3 : ∀ b ∈ fpZ z TI TO Ss, FpOk X pins H3 b := fun b hb => by
    obtain ⟨o, e, _⟩ := ob b hb
    exact FpOk.at (a8 b hb) (kp b hb o e).2
  have I3u := I3.unpinned
  have h2 := zargs I3u (.cons r3 .nil) (.cons hJ2 .nil)
  refine call_zipN (by simp) I3u (stt_zip (K := X.K) a3 a4 a5 a6 st3 f3) h2 (fun b hb => ?_) fun z' TI' TO' Ss' s4 b1 b2 b3 b4 b5 b6 => ?_
  · obtain ⟨o, e, _⟩ := tnZ_obj a6 st3 b hb
    exact Heap.lt_size e
  · have hS : Ss'.length = 2 := by
      have e := congrArg List.length b1
      simpa using e
    refine zip_pie b1 b2 b3 (by omega) (by intro e; subst e; simp at hS) b4 b5 b6 ?_
    rw [a1]
    exact q3
end
end Sp

set_option Elab.async false
set_option linter.all false
set_option maxRecDepth 100000
set_option maxHeartbeats 4000000
namespace Sp
open PySem PySem.Spec PyProof.Rows L2
open PySem.W (Datum DatumOrd Tup)
theorem meets_enumerate_new1 {v : Value} {o : Obj} {H : Heap → Prop} (B : Begins v o H) :
    Meets (Builtin.«enumerate.__new__» ⟨[.type "enumerate", v], []⟩) (fun _ R s => H s.heap ∧
      R (.ok (.ret (.ref (s.heap.push o).objs.size))) { s with heap := (s.heap.push o).push { cls := .type "enumerate", data := .fields #[.none, .bool false, .ref s.heap.objs.size, rawInt 0, .none, .none] } }) :=
  .of_wp fun prog w A R s h => by
    obtain ⟨hp, g, d, tk, os⟩ := s; obtain ⟨h1, h⟩ := h
    have hsub := sub_enumerate
    have q1 : ∀ {A' : Around} {E : Value → Shared → Prop} {Q : Value → Shared → Prop}, Q (.ref hp.objs.size) ⟨hp.push o, g, d, tk, os⟩ → wpAny (model prog w) A' (pyIter v) Q E ⟨hp, g, d, tk, os⟩ :=
      fun q => B.iter prog w _ _ ⟨hp, g, d, tk, os⟩ _ h1 q
    wp_walk using q1
    refine wpAny_stack_any fun st => wpAny_pure ?_
    split
    · rename_i c _ _ _ _ _
      cases (c == Value.type "enumerate")
      · wp_walk using q1
        exact ⟨_, rfl, h⟩
      · wp_walk using q1
        exact ⟨_, rfl, h⟩
    · wp_walk using q1
      exact ⟨_, rfl, h⟩
section
variable {prog : Program} {w : World} {A : Around} {E : Value → Shared → Prop} {s : Shared}
theorem enum_begins1 {v : Value} {o : Obj} {H : Heap → Prop} {Q : Value → Shared → Prop} (B : Begins v o H) (h1 : H s.heap)
    (h : ∀ h', IsEnum h' (s.heap.objs.size + 1) s.heap.objs.size 0 .none → h'.get? s.heap.objs.size = some o → h'.objs.size = s.heap.objs.size + 2 →
      (∀ b o, s.heap.get? b = some o → h'.get? b = some o) → Q (.ref (s.heap.objs.size + 1)) { s with heap := h' }) :
    wpAny (model prog w) A (call (.type "enumerate") [v]) Q E s := by
  refine callType_new F.called_enumerate (by decide) (F.typeCall_enumerate_1 _) (F.newCall_enumerate_1 _) (fun obj => F.args_object_init_2 obj _) F.entry_enumerate_new
    (meets_enumerate_new1 B) ⟨h1, ?_⟩
  have hz : (s.heap.push o).objs.size = s.heap.objs.size + 1 := Heap.size_push ..
  show _ ∧ _
  rw [hz]
  have he : IsEnum ((s.heap.push o).push { cls := .type "enumerate", data := .fields #[.none, .bool false, .ref s.heap.objs.size, rawInt 0, .none, .none] }) (s.heap.objs.size + 1) s.heap.objs.size 0 .none := by
    have := Heap.get?_push_size (s.heap.push o) (o := { cls := .type "enumerate", data := .fields #[.none, .bool false, .ref s.heap.objs.size, rawInt 0, .none, .none] }) rfl
    rw [hz] at this; exact this
  refine ⟨⟨_, he, rfl⟩, h _ he (Heap.get?_push_of_some _ (Heap.get?_push_size _ B.free)) (by rw [Heap.size_push, hz]) fun b o x => Heap.get?_push_of_some _ (Heap.get?_push_of_some _ x)⟩
end
/-- the tuple at a, each item in a new pair -/
def IteT (K : PySem.W.Frag) (a : Addr) : It :=
  ⟨fun i H => ∃ (xs : List V) (x : V), SqT K H a xs ∧ xs[i]? = some x, fun i H v H' => ∃ T x, v = .ref T ∧ H T = none ∧ H' = upd H T (.tup [.int (i : Nat), x]) ∧ ∀ xs, SqT K H a xs → xs[i]? = some x, fun i H => ∃ xs : List V, SqT K H a xs ∧ xs.length = i⟩
theorem turn_enumT {P : Program} {w : World} {K : PySem.W.Frag} {elts : List Expr} {kk : Nat} {tpos : Pos} (a e it : Addr) :
    Turn P w K (.Tuple elts kk tpos) (IteT K a) [e, it] e (fun i h => (∃ old, IsEnum h e it ((i : Nat) : Int) old) ∧ h.IsTupleIter it a i ∧ e ≠ it) where
  mem := by simp
  obj := fun i h st b hb => by
    obtain ⟨⟨old, he⟩, ⟨o, ho, hc, hd⟩, _⟩ := st
    have e' : b = e ∨ b = it := by simpa using hb
    rcases e' with z | z
    · rw [z]; exact ⟨_, he, fun v q => nomatch q⟩
    · rw [z]; exact ⟨o, ho, fun v q => by rw [hd] at q; cases q⟩
  keep := fun i h h' st k => let ⟨⟨old, he⟩, hi, hne⟩ := st; ⟨⟨old, k e (by simp) _ he⟩, hi.at fun o q => k it (by simp) o q, hne⟩
  item := by
    intro X hP hw hK hc i pins s σ H E I hf st hg
    subst hP hw hK
    obtain ⟨⟨old, he⟩, hit, hne⟩ := st
    obtain ⟨xs, x, hq, hx⟩ := hg
    obtain ⟨its, rv, p, hz⟩ := I.tuple hq
    obtain ⟨u, hu, ru⟩ := rv.get hx
    have hel : e < s.heap.objs.size := Heap.lt_size he
    have hil : it < s.heap.objs.size := by obtain ⟨_, q, _⟩ := hit; exact Heap.lt_size q
    have pT : s.heap.IsTuple a its.toArray := p
    have hna : a ≠ it := by
      intro e
      subst e
      obtain ⟨o1, e1, c1, _⟩ := hit
      obtain ⟨o2, e2, c2, _⟩ := pT
      rw [e1] at e2
      cases e2
      rw [c1] at c2
      exact absurd c2 (by decide)
    have hil2 : i < its.toArray.size := by
      have : i < its.length := (List.getElem?_eq_some_iff.mp hu).1
      simpa using this
    have hea : e ∉ [it, a] := by
      intro hm
      have e' : e = it ∨ e = a := by simpa using hm
      rcases e' with z | z
      · exact hne z
      · rw [z] at he
        obtain ⟨o2, e2, c2, _⟩ := pT
        rw [he] at e2
        cases e2
        exact absurd (show (Value.type "enumerate") = Value.type "tuple" from c2) (by decide)
    refine wpAny_pyNext_enum_itemD (Draws.tuple (show X.A.in1.handled = none from I.ok.hd hc) it a hna its.toArray) he ⟨hit, pT⟩ hil2 hne hea fun x' h' tk hP ho hst hT hsz hk => ?_
    have ex : x' = u := by
      have : its.toArray[i]? = some u := by simpa using hu
      rw [this] at hP
      exact (Option.some.inj hP).symm
    subst ex
    refine ⟨_, rfl, wpAny_letOwnedTupleGo_enum (s := { s with heap := h', toks := tk + 1 }) ho fun h'' he' sb => ?_⟩
    have hT2 : h''.get? s.heap.objs.size = some { cls := .type "tuple", data := .seq #[.int i tk, x'] } := (sb.2 _ (Nat.ne_of_gt hel)).trans hT
    have new : ObjOk X.prog X.w (upd H s.heap.objs.size (.tup [.int (i : Nat), x])) h'' s.heap.objs.size (.tup [.int (i : Nat), x]) :=
      ⟨by show 2 ≤ sizeLine; decide, [.int i tk, x'], .cons ⟨_, rfl⟩ (.cons ru .nil), ⟨_, hT2, rfl, _, rfl⟩⟩
    have I1 : Inv X pins σ (upd H s.heap.objs.size (.tup [.int (i : Nat), x])) { s with heap := h'', toks := tk + 1 } :=
      I.turnedNew (ch := [e, it]) (fun b ob hb q => (sb.2 b (fun z => hb (by simp [z]))).trans (hk b ob (fun z => hb (by simp [z])) (fun z => hb (by simp [z])) q)) hf (Nat.le_refl _) new
    refine ⟨.ref s.heap.objs.size, _, I1, rfl, ⟨_, x, rfl, I.hok.fresh (Nat.le_refl _), rfl, fun ys hy => by rw [I.tuple_inj hy hq]; exact hx⟩, ⟨⟨x', ?_⟩, hst.1.at fun o q => (sb.2 it (Ne.symm hne)).trans q, hne⟩, fun b hb => ?_⟩
    · have e1 : ((i + 1 : Nat) : Int) = (i : Int) + 1 := by omega
      rw [e1]; exact he'
    · have hb' : b < s.heap.objs.size := by
        have e' : b = e ∨ b = it := by simpa using hb
        rcases e' with z | z
        · rw [z]; exact hel
        · rw [z]; exact hil
      rw [upd_ne (Nat.ne_of_lt hb')]
      exact (hf b hb).1
  done := by
    intro X hP hw hK hc i pins s σ H E I hf st hg
    subst hP hw hK
    obtain ⟨⟨old, he⟩, hit, hne⟩ := st
    obtain ⟨xs, hq, hx⟩ := hg
    obtain ⟨its, rv, p, hz⟩ := I.tuple hq
    obtain ⟨f0, f1, f2, f3, f4, f5⟩ := hf it (by simp)
    have hl := rv.length
    have pT : s.heap.IsTuple a its.toArray := p
    have hna : a ≠ it := by
      intro e
      subst e
      obtain ⟨o1, e1, c1, _⟩ := hit
      obtain ⟨o2, e2, c2, _⟩ := pT
      rw [e1] at e2
      cases e2
      rw [c1] at c2
      exact absurd c2 (by decide)
    have ei : its.toArray.size = i := by simp; omega
    exact wpAny_pyNext_enum_endD (Draws.tuple (show X.A.in1.handled = none from I.ok.hd hc) it a hna its.toArray) he ⟨by rw [ei]; exact hit, pT⟩ fun h' eb => ⟨rfl, I.turned (t' := s.toks) (fun b o hb q => eb b o hb q) f0 f1 f3 f4 f5⟩
  self := fun A i s Q E st h => let ⟨⟨_, he⟩, _⟩ := st; wpAny_pyIter_enum he h
def iEnumX (K : PySem.W.Frag) (ta : TA) : TI := fun σ H R => ta σ H fun vs H1 => ∃ a xs, vs = [.ref a] ∧ ((SqL K H1 a xs ∧ (xs.length ≤ sizeLine → R (Ite K a) H1)) ∨ (SqT K H1 a xs ∧ (xs.length ≤ sizeLine → R (IteT K a) H1)))
theorem pi_enumX {X : Cx} {e : Expr} {ta : TA} {p pos tpos : Pos} {elts : List Expr} {kk : Nat} (hg : Gl X "enumerate") (hm : X.mg "enumerate" = none) (ha : PA X [e] ta) (hs : starEach [e] X.env = [(false, eval e X.env)] := by rfl) :
    PI X (.Tuple elts kk tpos) (.Call (.Name "enumerate" p) [e] [] pos) (iEnumX X.K ta) := by
  refine ⟨fun pins s σ H R I h => ?_⟩
  refine Call_ (ld_blt I hg hm boot_enumerate (PyProof.Rows.callWith_type1 (thn (ha.run pos pins s σ H _ I h) fun us s1 ⟨vs, H1, I1, r1, q1⟩ => ?_) hs rfl))
  obtain ⟨a, xs, ex, q1⟩ := q1
  subst ex
  cases r1 with
  | cons r rr =>
    cases rr
    cases r
    have fr : ∀ b, b ∈ [s1.heap.objs.size + 1, s1.heap.objs.size] → FpOk X pins H1 b := fun b hb => by
      have e' : b = s1.heap.objs.size + 1 ∨ b = s1.heap.objs.size := by simpa using hb
      have hle : s1.heap.objs.size ≤ b := by
        rcases e' with z | z
        · rw [z]; exact Nat.le_add_right _ _
        · rw [z]; exact Nat.le_refl _
      exact I1.fpOk hle (I1.hok.fresh hle)
    rcases q1 with ⟨hq, q⟩ | ⟨hq, q⟩
    · obtain ⟨its, rv, p', hz⟩ := I1.list hq
      refine call_enumerate_list p'.isList fun h' he hit hsz hk => wpAny_pyIter_enum he ?_
      have I2 : Inv X pins σ H1 { s1 with heap := h' } := I1.kept (t' := s1.toks) hk
      exact ⟨s1.heap.objs.size + 1, [s1.heap.objs.size + 1, s1.heap.objs.size], _, _, H1, rfl, I2, turn_enum a (s1.heap.objs.size + 1) s1.heap.objs.size, ⟨⟨.none, he⟩, hit, Nat.succ_ne_self _⟩, fr, q hz⟩
    · obtain ⟨its, rv, p', hz⟩ := I1.tuple hq
      refine enum_begins1 (begins_tuple a its.toArray) (show s1.heap.IsTuple a its.toArray from p') fun h' he hit hsz hk => wpAny_pyIter_enum he ?_
      have I2 : Inv X pins σ H1 { s1 with heap := h' } := I1.kept (t' := s1.toks) hk
      exact ⟨s1.heap.objs.size + 1, [s1.heap.objs.size + 1, s1.heap.objs.size], _, _, H1, rfl, I2, turn_enumT a (s1.heap.objs.size + 1) s1.heap.objs.size, ⟨⟨.none, he⟩, ⟨_, hit, rfl, rfl⟩, Nat.succ_ne_self _⟩, fr, q hz⟩
end Sp

set_option Elab.async false
set_option linter.all false
set_option maxRecDepth 100000
set_option maxHeartbeats 2000000
namespace Sp
open PySem PySem.Spec PyProof.Rows L2
open PySem.W (Datum DatumOrd Tup)
section
variable {K : PySem.W.Frag} {F F' : Hp} {σ : L2.St} {ta tb te : TE} {tt tu : TT} {α β γ δ : Type} [DecidableEq α] [Datum α] [DecidableEq β] [Datum β] [DecidableEq γ] [Datum γ] [DecidableEq δ] [Datum δ]
/-- J yields xs, wherever F stands for good -/
def SrcJ (K : PySem.W.Frag) (F : Hp) (J : It) (xs : List α) : Prop := ∀ c H, Same F (hid c H) → Okc c H →
  (∀ i, i < xs.length → J.go i H) ∧ J.stop xs.length H ∧ ∀ i v H' x, xs[i]? = some x → J.yld i H v H' → Same H H' ∧ Rp K (hid c H') v x
theorem SrcJ.mono {J : It} {xs : List α} (s : Same F F') (h : SrcJ K F J xs) : SrcJ K F' J xs := fun c H a ok => h c H (s.trans a) ok
theorem src_list {a : Addr} {vs : List V} {xs : List α} (h : Rd F a (.lst vs)) (r : Rps K F vs xs) : SrcJ K F (Itl K a) xs := fun c H s ok => by
  have hs : SqL K H a vs := .inl (rd_le (Evl.ex_rd s h))
  have hl := r.length
  refine ⟨fun i hi => ⟨vs, vs[i]'(by omega), hs, List.getElem?_eq_getElem (by omega)⟩, ⟨vs, hs, by omega⟩, fun i v H' x hx y => ?_⟩
  obtain ⟨rfl, hy⟩ := y
  obtain ⟨w, hw, rw'⟩ := r.get hx
  have := hy vs hs
  rw [hw] at this
  cases this
  exact ⟨Same.refl _, rw'.mono s⟩
theorem src_tup {a : Addr} {vs : List V} {xs : List α} (h : SqT K F a vs) (r : Rps K F vs xs) : SrcJ K F (Itt K a) xs := fun c H s ok => by
  have hs : SqT K H a vs := sqt_le (Evl.ex_t s h)
  have hl := r.length
  refine ⟨fun i hi => ⟨vs, vs[i]'(by omega), hs, List.getElem?_eq_getElem (by omega)⟩, ⟨vs, hs, by omega⟩, fun i v H' x hx y => ?_⟩
  obtain ⟨rfl, hy⟩ := y
  obtain ⟨w, hw, rw'⟩ := r.get hx
  have := hy vs hs
  rw [hw] at this
  cases this
  exact ⟨Same.refl _, rw'.mono s⟩
theorem rangeL_len (a b : Int) : (rangeL a b).length = (b - a).toNat := by simp [rangeL]
theorem rangeL_get {a b : Int} {i : Nat} (h : i < (b - a).toNat) : (rangeL a b)[i]? = some (a + (i : Nat)) := by
  unfold rangeL
  rw [List.getElem?_map, List.getElem?_range h]
  rfl
theorem src_range {a b : Int} : SrcJ K F (Itr a (b - a).toNat) (rangeL a b) := fun c H s ok => by
  refine ⟨fun i hi => by rw [rangeL_len] at hi; exact hi, Nat.le_of_eq (rangeL_len a b).symm, fun i v H' x hx y => ?_⟩
  obtain ⟨rfl, rfl⟩ := y
  have hi : i < (b - a).toNat := by
    have := (List.getElem?_eq_some_iff.mp hx).1
    rwa [rangeL_len] at this
  rw [rangeL_get hi] at hx
  cases hx
  exact ⟨Same.refl _, rp_mkI⟩
theorem src_enumL {a : Addr} {vs : List V} {xs : List α} (h : Rd F a (.lst vs)) (r : Rps K F vs xs) : SrcJ K F (Ite K a) ((rangeL 0 xs.length).zip xs) := fun c H s ok => by
  have hs : SqL K H a vs := .inl (rd_le (Evl.ex_rd s h))
  have hl := r.length
  have hz : ((rangeL 0 xs.length).zip xs).length = xs.length := by rw [List.length_zip, rangeL_len]; simp
  refine ⟨fun i hi => ⟨vs, vs[i]'(by omega), hs, List.getElem?_eq_getElem (by omega)⟩, ⟨vs, hs, by omega⟩, fun i v H' x hx y => ?_⟩
  obtain ⟨T, z, rfl, hT, rfl, hy⟩ := y
  obtain ⟨k, x⟩ := x
  rw [List.getElem?_zip_eq_some] at hx
  obtain ⟨hk, hx⟩ := hx
  obtain ⟨w, hw, rw'⟩ := r.get hx
  have := hy vs hs
  rw [hw] at this
  cases this
  have hi : i < ((xs.length : Int) - 0).toNat := by
    have := (List.getElem?_eq_some_iff.mp hk).1
    rwa [rangeL_len] at this
  rw [rangeL_get hi, Int.zero_add] at hk
  obtain rfl : ((i : Nat) : Int) = k := Option.some.inj hk
  exact ⟨same_new hT, rp_mkP (sqt_new ok hT) rp_mkI ((rw'.mono s).mono (same_new hT).hid)⟩
theorem src_enumT {a : Addr} {vs : List V} {xs : List α} (h : SqT K F a vs) (r : Rps K F vs xs) : SrcJ K F (IteT K a) ((rangeL 0 xs.length).zip xs) := fun c H s ok => by
  have hs : SqT K H a vs := sqt_le (Evl.ex_t s h)
  have hl := r.length
  have hz : ((rangeL 0 xs.length).zip xs).length = xs.length := by rw [List.length_zip, rangeL_len]; simp
  refine ⟨fun i hi => ⟨vs, vs[i]'(by omega), hs, List.getElem?_eq_getElem (by omega)⟩, ⟨vs, hs, by omega⟩, fun i v H' x hx y => ?_⟩
  obtain ⟨T, z, rfl, hT, rfl, hy⟩ := y
  obtain ⟨k, x⟩ := x
  rw [List.getElem?_zip_eq_some] at hx
  obtain ⟨hk, hx⟩ := hx
  obtain ⟨w, hw, rw'⟩ := r.get hx
  have := hy vs hs
  rw [hw] at this
  cases this
  have hi : i < ((xs.length : Int) - 0).toNat := by
    have := (List.getElem?_eq_some_iff.mp hk).1
    rwa [rangeL_len] at this
  rw [rangeL_get hi, Int.zero_add] at hk
  obtain rfl : ((i : Nat) : Int) = k := Option.some.inj hk
  exact ⟨same_new hT, rp_mkP (sqt_new ok hT) rp_mkI ((rw'.mono s).mono (same_new hT).hid)⟩
/-- zip of two -/
theorem src_zip2 {J1 J2 : It} {xs : List α} {ys : List β} (h1 : SrcJ K F J1 xs) (h2 : SrcJ K F J2 ys) (hl : xs.length ≤ ys.length) : SrcJ K F (ItN [J1, J2]) (xs.zip ys) := fun c H s ok => by
  have hz : (xs.zip ys).length = xs.length := by rw [List.length_zip]; omega
  obtain ⟨g1, s1, y1⟩ := h1 c H s ok
  refine ⟨fun i hi => ⟨g1 i (by omega), fun v H1 y => ?_⟩, ⟨J1, [J2], rfl, by rw [hz]; exact s1⟩, fun i v H' p hp y => ?_⟩
  · have hx : xs[i]? = some (xs[i]'(by omega)) := List.getElem?_eq_getElem (by omega)
    obtain ⟨sm, r⟩ := y1 i v H1 _ hx y
    exact ⟨(h2 c H1 (s.trans sm.hid) (ok.mono sm)).1 i (by omega), fun _ _ _ => trivial⟩
  · obtain ⟨x, z⟩ := p
    rw [List.getElem?_zip_eq_some] at hp
    obtain ⟨vs, H2, T, hc, rfl, hT, rfl⟩ := y
    cases hc with
    | cons ya hc =>
      cases hc with
      | cons yb hc =>
        cases hc
        obtain ⟨sm, r⟩ := y1 _ _ _ _ hp.1 ya
        obtain ⟨sm2, r2⟩ := (h2 c _ (s.trans sm.hid) (ok.mono sm)).2.2 _ _ _ _ hp.2 yb
        exact ⟨(sm.trans sm2).trans (same_new hT), rp_mkP (sqt_new ((ok.mono sm).mono sm2) hT) ((r.mono sm2.hid).mono (same_new hT).hid) (r2.mono (same_new hT).hid)⟩
/-- the columns of rows -/
def colsL (rows : List (List α)) : List (Tup α) := (List.range (rows.headD []).length).map fun i => Tup.mk (rows.filterMap fun r => r[i]?)
theorem chn_rows {m : Nat} {i : Nat} (hi : i < m) : ∀ {Js : List It} {rows : List (List α)}, Paired (fun J r => SrcJ K F J r) Js rows → (∀ r ∈ rows, r.length = m) → ∀ {c : Addr → Bool} {H : Hp}, Same F (hid c H) → Okc c H →
    ChnGo i Js H ∧ ∀ vs H', Chn i Js H vs H' → Same H H' ∧ Rps K (hid c H') vs (rows.filterMap fun r => r[i]?)
  | _, _, .nil, _, c, H, s, ok => ⟨trivial, fun vs H' hc => by cases hc; exact ⟨Same.refl _, Rps.nil⟩⟩
  | _, _, .cons (a := J) (b := r) h hs, hm, c, H, s, ok => by
    have hr : r.length = m := hm r (by simp)
    have hx : r[i]? = some (r[i]'(by omega)) := List.getElem?_eq_getElem (by omega)
    obtain ⟨g1, s1, y1⟩ := h c H s ok
    refine ⟨⟨g1 i (by omega), fun v H1 y => ?_⟩, fun vs H' hc => ?_⟩
    · obtain ⟨sm, _⟩ := y1 i v H1 _ hx y
      exact (chn_rows hi hs (fun r hr => hm r (by simp [hr])) (s.trans sm.hid) (ok.mono sm)).1
    · cases hc with
      | cons ya hc =>
        obtain ⟨sm, ra⟩ := y1 _ _ _ _ hx ya
        obtain ⟨sm2, rb⟩ := (chn_rows hi hs (fun r hr => hm r (by simp [hr])) (s.trans sm.hid) (ok.mono sm)).2 _ _ hc
        refine ⟨sm.trans sm2, ?_⟩
        rw [List.filterMap_cons_some (f := fun r : List α => r[i]?) hx]
        exact Rps.cons (ra.mono sm2.hid) rb
theorem src_rows {Js : List It} {rows : List (List α)} {m : Nat} (h : Paired (fun J r => SrcJ K F J r) Js rows) (hne : rows ≠ []) (hm : ∀ r ∈ rows, r.length = m) : SrcJ K F (ItN Js) (colsL rows) := fun c H s ok => by
  have hz : (colsL rows).length = m := by
    unfold colsL
    cases rows with
    | nil => exact absurd rfl hne
    | cons r rs => simp [hm r (by simp)]
  refine ⟨fun i hi => (chn_rows (by omega) h hm s ok).1, ?_, fun i v H' x hx y => ?_⟩
  · cases h with
    | nil => exact absurd rfl hne
    | cons h hs =>
      rename_i J r Js rs
      refine ⟨J, Js, rfl, ?_⟩
      rw [hz, ← hm r (by simp)]
      exact (h c H s ok).2.1
  · have hi : i < m := by
      have := (List.getElem?_eq_some_iff.mp hx).1
      omega
    obtain ⟨vs, H2, T, hc, rfl, hT, rfl⟩ := y
    obtain ⟨sm, r⟩ := (chn_rows hi h hm s ok).2 _ _ hc
    have ex : x = Tup.mk (rows.filterMap fun r => r[i]?) := by
      unfold colsL at hx
      rw [List.getElem?_map, List.getElem?_range (by
        have := hz
        unfold colsL at this
        rw [List.length_map, List.length_range] at this
        omega)] at hx
      exact (Option.some.inj hx).symm
    rw [ex]
    exact ⟨sm.trans (same_new hT), rp_mkT (sqt_new (ok.mono sm) hT) (r.mono (same_new hT).hid)⟩
/-- a source, evaluated -/
def EvI (K : PySem.W.Frag) (F : Hp) (wi : TI) (σ : L2.St) (xs : List α) : Prop := ∀ c H, Same F (hid c H) → Okc c H → ∀ R : It → Hp → Prop, (∀ J H', Same H H' → SrcJ K (hid c H') J xs → xs.length ≤ sizeLine → R J H') → wi σ H R
theorem EvI.mono {wi : TI} {xs : List α} (s : Same F F') (h : EvI K F wi σ xs) : EvI K F' wi σ xs := fun c H a ok => h c H (s.trans a) ok
theorem ei_list {xs : List α} (ha : Ev K F ta σ xs) : EvI K F (iSeqX K ta) σ xs := fun c H a ok R q =>
  ha c H a ok _ fun v H1 s1 r1 => by
    obtain ⟨b, vs, rfl, hs, hr⟩ := rp_lst r1
    exact ⟨b, vs, rfl, .inl ⟨.inl (rd_le hs), fun hz => q _ H1 s1 (src_list hs hr) (by rw [← hr.length]; exact hz)⟩⟩
theorem ei_tup {t : Tup α} (ha : Ev K F ta σ t) : EvI K F (iSeqX K ta) σ t.items := fun c H a ok R q =>
  ha c H a ok _ fun v H1 s1 r1 => by
    obtain ⟨b, vs, rfl, hs, hr⟩ := rp_tup r1
    exact ⟨b, vs, rfl, .inr ⟨sqt_le hs, fun hz => q _ H1 s1 (src_tup hs hr) (by rw [← hr.length]; exact hz)⟩⟩
theorem ei_rng1 {n : Int} (ha : Ev K F ta σ n) (hn : n ≤ 16777216) (hn0 : -(2 ^ 62) ≤ n := by omega) : EvI K F (iRng1 (tCons ta tNil)) σ (rangeL 0 n) := fun c H a ok R q =>
  ha c H a ok _ fun v H1 s1 r1 => ⟨n, by rw [rp_int r1], hn0, by omega, q _ H1 s1 (by have := src_range (K := K) (F := hid c H1) (a := 0) (b := n); rwa [Int.sub_zero] at this) (by rw [rangeL_len]; unfold sizeLine; omega)⟩
theorem ei_rng2 {m n : Int} (ha : Ev K F ta σ m) (hb : Ev K F tb σ n) (hm : 0 ≤ m ∧ m ≤ 16777216) (hn : n ≤ 16777216) (hn0 : -(2 ^ 62) ≤ n := by omega) : EvI K F (iRng2 (tCons ta (tCons tb tNil))) σ (rangeL m n) := fun c H a ok R q =>
  ev2 ha hb a ok fun v w H1 s1 k r1 r2 => ⟨m, n, by rw [rp_int r1, rp_int r2], ⟨by omega, by omega, hn0, by omega⟩, q _ H1 s1 src_range (by rw [rangeL_len]; unfold sizeLine; omega)⟩
theorem ei_enumL {xs : List α} (ha : Ev K F ta σ xs) : EvI K F (iEnumX K (tCons ta tNil)) σ ((rangeL 0 xs.length).zip xs) := fun c H a ok R q =>
  ha c H a ok _ fun v H1 s1 r1 => by
    obtain ⟨b, vs, rfl, hs, hr⟩ := rp_lst r1
    exact ⟨b, vs, rfl, .inl ⟨.inl (rd_le hs), fun hz => q _ H1 s1 (src_enumL hs hr) (by rw [List.length_zip, rangeL_len, ← hr.length]; simp; exact hz)⟩⟩
theorem ei_enumT {t : Tup α} (ha : Ev K F ta σ t) : EvI K F (iEnumX K (tCons ta tNil)) σ ((rangeL 0 t.items.length).zip t.items) := fun c H a ok R q =>
  ha c H a ok _ fun v H1 s1 r1 => by
    obtain ⟨b, vs, rfl, hs, hr⟩ := rp_tup r1
    exact ⟨b, vs, rfl, .inr ⟨sqt_le hs, fun hz => q _ H1 s1 (src_enumT hs hr) (by rw [List.length_zip, rangeL_len, ← hr.length]; simp; exact hz)⟩⟩
/-- an argument of a zip -/
def EvZ (K : PySem.W.Frag) (F : Hp) (t : TE) (σ : L2.St) (xs : List α) : Prop := ∀ c H, Same F (hid c H) → Okc c H → ∀ Q : VK, (∀ v H' J, Same H H' → ZArg K H' v J → SrcJ K (hid c H') J xs → (ZLen K H' v → xs.length ≤ sizeLine) → Q v H') → t σ H Q
theorem ez_list {xs : List α} (ha : Ev K F ta σ xs) : EvZ K F ta σ xs := fun c H a ok Q q =>
  ha c H a ok _ fun v H1 s1 r1 => by
    obtain ⟨b, vs, rfl, hs, hr⟩ := rp_lst r1
    exact q _ H1 _ s1 ⟨b, vs, rfl, .inl ⟨.inl (rd_le hs), rfl⟩⟩ (src_list hs hr) fun hz => by rw [← hr.length]; exact hz b vs rfl (.inl (.inl (rd_le hs)))
theorem ez_tup {t : Tup α} (ha : Ev K F ta σ t) : EvZ K F ta σ t.items := fun c H a ok Q q =>
  ha c H a ok _ fun v H1 s1 r1 => by
    obtain ⟨b, vs, rfl, hs, hr⟩ := rp_tup r1
    exact q _ H1 _ s1 ⟨b, vs, rfl, .inr ⟨sqt_le hs, rfl⟩⟩ (src_tup hs hr) fun hz => by rw [← hr.length]; exact hz b vs rfl (.inr (sqt_le hs))
theorem zarg_mono {H H' : Hp} {v : V} {J : It} (s : Same H H') (h : ZArg K H v J) : ZArg K H' v J := by
  obtain ⟨a, vs, rfl, h⟩ := h
  rcases h with ⟨h, rfl⟩ | ⟨h, rfl⟩
  · exact ⟨a, vs, rfl, .inl ⟨h.imp (Evl.ex_rd s) id, rfl⟩⟩
  · exact ⟨a, vs, rfl, .inr ⟨Evl.ex_t s h, rfl⟩⟩
theorem ei_zip2 {xs : List α} {ys : List β} (ha : EvZ K F ta σ xs) (hb : EvZ K F tb σ ys) (hl : xs.length ≤ ys.length) : EvI K F (iZipX K (tCons ta (tCons tb tNil))) σ (xs.zip ys) := fun c H a ok R q =>
  ha c H a ok _ fun v H1 J1 s1 z1 j1 l1 => hb c H1 (a.trans s1.hid) (ok.mono s1) _ fun w H2 J2 s2 z2 j2 l2 =>
    ⟨by simp, by simp, [J1, J2], .cons (zarg_mono s2 z1) (.cons z2 .nil), fun hz => q _ H2 (s1.trans s2) (src_zip2 (j1.mono s2.hid) j2 hl) (by
      rw [List.length_zip]
      have := l2 (hz w (by simp))
      omega)⟩
/-- *rows -/
theorem paired_rows {H : Hp} {F : Hp} (hf : Same F H) : ∀ {vs : List V} {rows : List (Tup α)}, Rps K F vs rows → ∃ Js, Paired (ZArg K H) vs Js ∧ Paired (fun J r => SrcJ K F J r) Js (rows.map (·.items))
  | _, [], h => by cases (show DqAll K F _ [] from h); exact ⟨[], .nil, .nil⟩
  | _, r :: rows, h => by
    cases (show DqAll K F _ (Datum.toD r :: rows.map Datum.toD) from h) with
    | cons h1 h2 =>
      obtain ⟨Js, a, b⟩ := paired_rows hf h2
      obtain ⟨ad, vs, rfl, hs, hr⟩ := rp_tup (show Rp K F _ r from h1)
      exact ⟨_, .cons ⟨ad, vs, rfl, .inr ⟨Evl.ex_t hf hs, rfl⟩⟩ a, .cons (src_tup hs hr) b⟩
theorem paired_rowsL {H : Hp} {F : Hp} (hf : Same F H) : ∀ {vs : List V} {rows : List (List α)}, Rps K F vs rows → ∃ Js, Paired (ZArg K H) vs Js ∧ Paired (fun J r => SrcJ K F J r) Js rows
  | _, [], h => by cases (show DqAll K F _ [] from h); exact ⟨[], .nil, .nil⟩
  | _, r :: rows, h => by
    cases (show DqAll K F _ (Datum.toD r :: rows.map Datum.toD) from h) with
    | cons h1 h2 =>
      obtain ⟨Js, a, b⟩ := paired_rowsL hf h2
      obtain ⟨ad, vs, rfl, hs, hr⟩ := rp_lst (show Rp K F _ r from h1)
      exact ⟨_, .cons ⟨ad, vs, rfl, .inl ⟨.inl (Evl.ex_rd hf hs), rfl⟩⟩ a, .cons (src_list hs hr) b⟩
theorem cols_le {rows : List (Tup α)} {m : Nat} (hm : ∀ r ∈ rows, r.items.length = m) (hb : m ≤ 100000) : (colsL (rows.map (·.items))).length ≤ sizeLine := by
  unfold colsL
  rw [List.length_map, List.length_range]
  cases rows with
  | nil => simp
  | cons r rs =>
    simp only [List.map_cons, List.headD_cons]
    rw [hm r (by simp)]
    unfold sizeLine
    omega
theorem ei_zipS {rows : Tup (Tup α)} {m : Nat} (ha : Ev K F ta σ rows) (hne : rows.items ≠ []) (hl : rows.items.length ≤ 6) (hm : ∀ r ∈ rows.items, r.items.length = m) (hb : m ≤ 100000) : EvI K F (iZipX K (tStar1 K ta)) σ (colsL (rows.items.map (·.items))) := fun c H a ok R q =>
  ha c H a ok _ fun v H1 s1 r1 => by
    obtain ⟨b, vs, rfl, hs, hr⟩ := rp_tup r1
    obtain ⟨Js, p1, p2⟩ := paired_rows (hid_le c H1) hr
    have hvl := hr.length
    refine ⟨b, vs, rfl, .inl (sqt_le hs), ?_, by omega, Js, p1, fun hz => q _ H1 s1 (src_rows p2 (by simpa using hne) (by simpa using hm)) (cols_le hm hb)⟩
    intro e
    rw [e] at hvl
    exact hne (List.length_eq_zero_iff.mp hvl.symm)
theorem ei_zipSL {rows : List (Tup α)} {m : Nat} (ha : Ev K F ta σ rows) (hne : rows ≠ []) (hl : rows.length ≤ 6) (hm : ∀ r ∈ rows, r.items.length = m) (hb : m ≤ 100000) : EvI K F (iZipX K (tStar1 K ta)) σ (colsL (rows.map (·.items))) := fun c H a ok R q =>
  ha c H a ok _ fun v H1 s1 r1 => by
    obtain ⟨b, vs, rfl, hs, hr⟩ := rp_lst r1
    obtain ⟨Js, p1, p2⟩ := paired_rows (hid_le c H1) hr
    have hvl := hr.length
    refine ⟨b, vs, rfl, .inr (.inl (rd_le hs)), ?_, by omega, Js, p1, fun hz => q _ H1 s1 (src_rows p2 (by simpa using hne) (by simpa using hm)) (cols_le hm hb)⟩
    intro e
    rw [e] at hvl
    exact hne (List.length_eq_zero_iff.mp hvl.symm)
theorem ei_zipZ {rows : Tup (Tup α)} {ys : List β} {m : Nat} (ha : Ev K F ta σ rows) (hb : EvZ K F tb σ ys) (hne : rows.items ≠ []) (hl : rows.items.length ≤ 6) (hm : ∀ r ∈ rows.items, r.items.length = m) (hm1 : m ≤ 100000) (hy : m ≤ ys.length) :
    EvI K F (iZipZ K (tStar1 K ta) tb) σ ((colsL (rows.items.map (·.items))).zip ys) := fun c H a ok R q =>
  ha c H a ok _ fun v H1 s1 r1 => by
    obtain ⟨b, vs, rfl, hs, hr⟩ := rp_tup r1
    obtain ⟨Js, p1, p2⟩ := paired_rows (hid_le c H1) hr
    have hvl := hr.length
    have hcl : (colsL (rows.items.map (·.items))).length = m := by
      unfold colsL
      rw [List.length_map, List.length_range]
      cases hx : rows.items with
      | nil => exact absurd hx hne
      | cons r rs => simpa using hm r (by rw [hx]; simp)
    refine ⟨b, vs, rfl, .inl (sqt_le hs), ?_, by omega, Js, p1, fun hz => hb c H1 (a.trans s1.hid) (ok.mono s1) _ fun w H2 J2 s2 z2 j2 l2 => ⟨J2, z2, q _ H2 (s1.trans s2) (src_zip2 ((src_rows p2 (by simpa using hne) (by simpa using hm)).mono s2.hid) j2 (by omega)) (by rw [List.length_zip]; unfold sizeLine; omega)⟩⟩
    intro e
    rw [e] at hvl
    exact hne (List.length_eq_zero_iff.mp hvl.symm)
end
end Sp

set_option Elab.async false
set_option linter.all false
set_option maxRecDepth 100000
set_option maxHeartbeats 2000000
namespace Sp
open PySem PySem.Spec PyProof.Rows L2
open PySem.W (Datum DatumOrd Tup)
section
variable {K : PySem.W.Frag} {F F' : Hp} {σ : L2.St} {ta tb te : TE} {tt tu : TT} {α β γ δ : Type} [DecidableEq α] [Datum α] [DecidableEq β] [Datum β] [DecidableEq γ] [Datum γ] [DecidableEq δ] [Datum δ]
/-- what a target binds -/
def EvG (F : Hp) (g : TG) (v : V) (σ σ2 : L2.St) : Prop := ∀ c H, Same F (hid c H) → Okc c H → ∀ Q : L2.St → Hp → Prop, Q σ2 H → g v σ H Q
theorem eg_name {v : V} {i : Nat} : EvG F (gName i) v σ (σ.set i (some v)) := fun c H a ok Q q => q
theorem EvG.mono {g : TG} {v : V} {σ2 : L2.St} (s : Same F F') (h : EvG F g v σ σ2) : EvG F' g v σ σ2 := fun c H a ok => h c H (s.trans a) ok
theorem eg_two {v : V} {x : α × β} {i j : Nat} (r : Rp K F v x) : ∃ v1 v2, Rp K F v1 x.1 ∧ Rp K F v2 x.2 ∧ EvG F (gTup K 2 (gCons (gName i) (gCons (gName j) gNil))) v σ ((σ.set i (some v1)).set j (some v2)) := by
  obtain ⟨a, v1, v2, rfl, hs, r1, r2⟩ := rp_pair r
  exact ⟨v1, v2, r1, r2, fun c H s ok Q q => ⟨a, [v1, v2], rfl, sqt_le (Evl.ex_t s hs), rfl, v1, [v2], rfl, v2, [], rfl, rfl, q⟩⟩
/-- two of a tuple of that length -/
theorem eg_twoT {v : V} {t : Tup α} {x y : α} {i j : Nat} (r : Rp K F v t) (e : t.items = [x, y]) : ∃ v1 v2, Rp K F v1 x ∧ Rp K F v2 y ∧ EvG F (gTup K 2 (gCons (gName i) (gCons (gName j) gNil))) v σ ((σ.set i (some v1)).set j (some v2)) := by
  obtain ⟨a, vs, rfl, hs, hr⟩ := rp_tup r
  rw [e] at hr
  cases (show DqAll K F vs [Datum.toD x, Datum.toD y] from hr) with
  | cons h1 h2 =>
    cases h2 with
    | cons h3 h4 =>
      cases h4
      exact ⟨_, _, h1, h3, fun c H s ok Q q => ⟨a, _, rfl, sqt_le (Evl.ex_t s hs), rfl, _, [_], rfl, _, [], rfl, rfl, q⟩⟩
theorem eg_twoL {v : V} {t : List α} {x y : α} {i j : Nat} (r : Rp K F v t) (e : t = [x, y]) : ∃ v1 v2, Rp K F v1 x ∧ Rp K F v2 y ∧ EvG F (gUnl K 2 (gCons (gName i) (gCons (gName j) gNil))) v σ ((σ.set i (some v1)).set j (some v2)) := by
  obtain ⟨a, vs, rfl, hs, hr⟩ := rp_lst r
  rw [e] at hr
  cases (show DqAll K F vs [Datum.toD x, Datum.toD y] from hr) with
  | cons h1 h2 =>
    cases h2 with
    | cons h3 h4 =>
      cases h4
      exact ⟨_, _, h1, h3, fun c H s ok Q q => ⟨a, _, rfl, .inl (rd_le (Evl.ex_rd s hs)), rfl, _, [_], rfl, _, [], rfl, rfl, q⟩⟩
/-- one more cell hidden -/
def more (c : Addr → Bool) (D : Addr) : Addr → Bool := fun b => c b || b == D
theorem more_self {c : Addr → Bool} {D : Addr} : more c D D = true := by simp [more]
theorem hid_more {c : Addr → Bool} {D : Addr} {H1 H2 : Hp} (n : H1 D = none) (s : Same H1 H2) : Same (hid c H1) (hid (more c D) H2) := fun b o e => by
  unfold hid at e ⊢
  split at e
  · cases e
  · rename_i h
    have hb : b ≠ D := fun z => by rw [z, n] at e; cases e
    rw [if_neg (by simp [more, h, hb])]
    exact s b o e
theorem hid_less {c : Addr → Bool} {D : Addr} {H : Hp} : Same (hid (more c D) H) (hid c H) := fun b o e => by
  unfold hid at e ⊢
  split at e
  · cases e
  · rename_i h
    have : c b = false := by
      simp [more] at h
      simpa using h.1
    rw [this]
    simpa using e
theorem okc_more {c : Addr → Bool} {D : Addr} {H : Hp} (ok : Okc c H) (h : Cel (H D)) : Okc (more c D) H := fun b hb => by
  simp [more] at hb
  rcases hb with hb | hb
  · exact ok b hb
  · rw [hb]
    exact h
theorem hid_upd {c : Addr → Bool} {D : Addr} {H : Hp} {o : HO} (h : c D = true) : Same (hid c H) (hid c (upd H D o)) := fun b x e => by
  unfold hid at e ⊢
  split at e
  · cases e
  · rename_i hc
    rw [if_neg hc, upd_ne (fun z => hc (by rw [z]; exact h))]
    exact e
theorem same_upd {H1 H2 : Hp} {D : Addr} {o : HO} (n : H1 D = none) (s : Same H1 H2) : Same H1 (upd H2 D o) := fun b x e => by
  rw [upd_ne (fun z => by rw [z, n] at e; cases e)]
  exact s b x e
theorem take_succ_filter {p : α → Bool} {f : α → β} {xs : List α} {i : Nat} {x : α} (h : xs[i]? = some x) : ((xs.take (i + 1)).filter p).map f = ((xs.take i).filter p).map f ++ (if p x = true then [f x] else []) := by
  rw [List.take_add_one, h]
  simp only [Option.toList_some, List.filter_append, List.map_append]
  congr 1
  by_cases hp : p x = true
  · simp [hp]
  · simp [hp]
/-- [e for t in xs if c] -/
theorem ev_lc {wi : TI} {g : TG} {vs : List Nat} {xs : List α} {p : α → Bool} {f : α → β} (hi : EvI K F wi σ xs)
    (body : ∀ (F' : Hp) (v : V) (x : α), Same F F' → x ∈ xs → Rp K F' v x → ∃ σ2, EvG F' g v (wipe σ vs) σ2 ∧ wipe σ2 vs = wipe σ vs ∧ EvT F' tt σ2 (p x) ∧ (p x = true → Ev K F' te σ2 (f x))) :
    Ev K F (tLc wi g tt te vs) σ ((xs.filter p).map f) := fun c H a ok Q q =>
  hi c H a ok _ fun J H1 s1 j1 hz D hD => by
    have okH1 := ok.mono s1
    have fz : ∀ H2, Same H1 H2 → Same (hid c H1) (hid (more c D) H2) := fun H2 s => hid_more hD s
    have okD : ∀ H2, Same H1 H2 → Cel (H2 D) → Okc (more c D) H2 := fun H2 s h => okc_more (okH1.mono s) h
    refine ⟨fun i m H2 => m = xs.length - i ∧ i ≤ xs.length ∧ Same H1 H2 ∧ ∃ acc, H2 D = some (.lst acc) ∧ Rps K (hid (more c D) H2) acc (((xs.take i).filter p).map f), ⟨xs.length, by simp, Nat.zero_le _, same_upd hD (Same.refl _), [], upd_same .., by simpa using Rps.nil⟩, ?_⟩
    rintro i m H2 ⟨rfl, hil, s2, acc, hacc, racc⟩
    have hDn : Cel (H2 D) := by rw [hacc]; exact cel_lst
    obtain ⟨jg, js, jy⟩ := j1 (more c D) H2 (fz H2 s2) (okD H2 s2 hDn)
    by_cases hlt : i < xs.length
    · have hx : xs[i]? = some xs[i] := List.getElem?_eq_getElem hlt
      refine .inr ⟨jg i hlt, fun H' => Same H1 H' ∧ ∃ acc, H' D = some (.lst acc) ∧ Rps K (hid (more c D) H') acc (((xs.take (i + 1)).filter p).map f), fun H' h => ⟨xs.length - (i + 1), by omega, rfl, by omega, h⟩, fun v H3 y => ?_⟩
      obtain ⟨s3, r3⟩ := jy i v H3 _ hx y
      have s13 := s2.trans s3
      have hD3 : H3 D = some (.lst acc) := s3 _ _ hacc
      have ok3 := okD H3 s13 (by rw [hD3]; exact cel_lst)
      obtain ⟨σ2, eg, ew, et, ee⟩ := body (hid (more c D) H3) v xs[i] (a.trans (s1.hid.trans (fz H3 s13))) (List.getElem_mem hlt) r3
      refine eg _ H3 (Same.refl _) ok3 _ ⟨ew, et _ H3 (Same.refl _) ok3 _ fun H4 s4 => ?_⟩
      have hD4 : H4 D = some (.lst acc) := s4 _ _ hD3
      have ok4 := ok3.mono s4
      rw [take_succ_filter hx]
      by_cases hp : p xs[i] = true
      · rw [if_pos hp]
        refine ee hp _ H4 s4.hid ok4 _ fun w H5 s5 r5 => ⟨acc, s5 _ _ hD4, ?_, same_upd hD ((s13.trans s4).trans s5), _, upd_same .., ?_⟩
        · rw [racc.length, List.length_map]
          have := List.length_filter_le p (xs.take i)
          rw [List.length_take] at this
          omega
        · rw [if_pos hp]
          exact (((racc.mono s3.hid).mono s4.hid).mono s5.hid |>.mono (hid_upd more_self)).append (.cons (r5.mono (hid_upd more_self)) .nil)
      · rw [if_neg hp]
        refine ⟨s13.trans s4, acc, hD4, ?_⟩
        rw [if_neg hp, List.append_nil]
        exact (racc.mono s3.hid).mono s4.hid
    · have e : i = xs.length := by omega
      subst e
      rw [List.take_length] at racc
      exact .inl ⟨js, q _ H2 (s1.trans s2) (rp_mkL (vs := acc) (.inl (by rw [hid_at (okH1.new hD)]; exact hacc)) (racc.mono hid_less))⟩
theorem tt_yes : EvT F tYes σ true := fun c H a ok Q q => q H (Same.refl H)
/-- with no test -/
theorem ev_lc1 {wi : TI} {g : TG} {vs : List Nat} {xs : List α} {f : α → β} (hi : EvI K F wi σ xs)
    (body : ∀ (F' : Hp) (v : V) (x : α), Same F F' → x ∈ xs → Rp K F' v x → ∃ σ2, EvG F' g v (wipe σ vs) σ2 ∧ wipe σ2 vs = wipe σ vs ∧ Ev K F' te σ2 (f x)) :
    Ev K F (tLc wi g tYes te vs) σ (xs.map f) := by
  have h := ev_lc (p := fun _ => true) (f := f) (te := te) (tt := tYes) (g := g) (vs := vs) hi fun F' v x s hx r => by
    obtain ⟨σ2, h1, h2, h3⟩ := body F' v x s hx r
    exact ⟨σ2, h1, h2, tt_yes, fun _ => h3⟩
  have e : xs.filter (fun _ => true) = xs := by simp
  rw [e] at h
  exact h
/-- two clauses -/
theorem ev_lc2 {wi wi1 : TI} {g g1 : TG} {vs vs1 : List Nat} {xs : List α} {ys : α → List γ} {f : α → γ → β} (hi : EvI K F wi σ xs)
    (hlen : (xs.flatMap fun x => (ys x).map (f x)).length ≤ sizeLine)
    (body : ∀ (F' : Hp) (v : V) (x : α), Same F F' → x ∈ xs → Rp K F' v x → ∃ σ2, EvG F' g v (wipe σ vs) σ2 ∧ wipe σ2 vs = wipe σ vs ∧ EvI K F' wi1 σ2 (ys x) ∧
      ∀ (F2 : Hp) (v1 : V) (y : γ), Same F' F2 → y ∈ ys x → Rp K F2 v1 y → ∃ σ3, EvG F2 g1 v1 (wipe σ2 vs1) σ3 ∧ wipe σ3 vs1 = wipe σ2 vs1 ∧ Ev K F2 te σ3 (f x y)) :
    Ev K F (tLc2 wi g tYes wi1 g1 tYes te vs vs1) σ (xs.flatMap fun x => (ys x).map (f x)) := fun c H a ok Q q =>
  hi c H a ok _ fun J H1 s1 j1 hz D hD => by
    have okH1 := ok.mono s1
    have fz : ∀ H2, Same H1 H2 → Same (hid c H1) (hid (more c D) H2) := fun H2 s => hid_more hD s
    have okD : ∀ H2, Same H1 H2 → Cel (H2 D) → Okc (more c D) H2 := fun H2 s h => okc_more (okH1.mono s) h
    have mono : ∀ {b o}, H1 b = some o → b ≠ D := fun {b o} e z => by rw [z, hD] at e; cases e
    refine ⟨fun i m H2 => m = xs.length - i ∧ i ≤ xs.length ∧ Same H1 H2 ∧ ∃ acc, H2 D = some (.lst acc) ∧ Rps K (hid (more c D) H2) acc ((xs.take i).flatMap fun x => (ys x).map (f x)), ⟨xs.length, by simp, Nat.zero_le _, same_upd hD (Same.refl _), [], upd_same .., by simpa using Rps.nil⟩, ?_⟩
    rintro i m H2 ⟨rfl, hil, s2, acc, hacc, racc⟩
    have hDn : Cel (H2 D) := by rw [hacc]; exact cel_lst
    obtain ⟨jg, js, jy⟩ := j1 (more c D) H2 (fz H2 s2) (okD H2 s2 hDn)
    by_cases hlt : i < xs.length
    · have hx : xs[i]? = some xs[i] := List.getElem?_eq_getElem hlt
      have etake : (xs.take (i + 1)).flatMap (fun x => (ys x).map (f x)) = (xs.take i).flatMap (fun x => (ys x).map (f x)) ++ (ys xs[i]).map (f xs[i]) := by
        rw [List.take_add_one, hx, List.flatMap_append]
        congr 1
        exact List.append_nil _
      have hpre : ((xs.take i).flatMap fun x => (ys x).map (f x)).length + (ys xs[i]).length ≤ sizeLine := by
        have e2 : xs.flatMap (fun x => (ys x).map (f x)) = (xs.take (i + 1)).flatMap (fun x => (ys x).map (f x)) ++ (xs.drop (i + 1)).flatMap (fun x => (ys x).map (f x)) := by
          rw [← List.flatMap_append, List.take_append_drop]
        rw [e2, etake, List.length_append, List.length_append, List.length_map] at hlen
        omega
      refine .inr ⟨jg i hlt, fun H' => Same H1 H' ∧ ∃ acc, H' D = some (.lst acc) ∧ Rps K (hid (more c D) H') acc ((xs.take (i + 1)).flatMap fun x => (ys x).map (f x)), fun H' h => ⟨xs.length - (i + 1), by omega, rfl, by omega, h⟩, fun v H3 y => ?_⟩
      obtain ⟨s3, r3⟩ := jy i v H3 _ hx y
      have s13 := s2.trans s3
      have hD3 : H3 D = some (.lst acc) := s3 _ _ hacc
      have ok3 := okD H3 s13 (by rw [hD3]; exact cel_lst)
      obtain ⟨σ2, eg, ew, ei, ee⟩ := body (hid (more c D) H3) v xs[i] (a.trans (s1.hid.trans (fz H3 s13))) (List.getElem_mem hlt) r3
      refine eg _ H3 (Same.refl _) ok3 _ ⟨ew, ?_⟩
      dsimp only [tYes]
      rw [if_pos rfl]
      refine ei _ H3 (Same.refl _) ok3 _ fun J1 H4 s4 j4 hz4 => ?_
      refine ⟨fun j k H5 => k = (ys xs[i]).length - j ∧ j ≤ (ys xs[i]).length ∧ Same H1 H5 ∧ Same (hid (more c D) H4) (hid (more c D) H5) ∧ ∃ acc, H5 D = some (.lst acc) ∧ Rps K (hid (more c D) H5) acc (((xs.take i).flatMap fun x => (ys x).map (f x)) ++ ((ys xs[i]).take j).map (f xs[i])),
        ⟨(ys xs[i]).length, by simp, Nat.zero_le _, s13.trans s4, Same.refl _, acc, s4 _ _ hD3, by simpa using (racc.mono s3.hid).mono s4.hid⟩, ?_⟩
      rintro j k H5 ⟨rfl, hjl, s5, f5, acc5, hacc5, racc5⟩
      have ok5 := okD H5 s5 (by rw [hacc5]; exact cel_lst)
      obtain ⟨kg, ks, ky⟩ := j4 (more c D) H5 f5 ok5
      by_cases hlt2 : j < (ys xs[i]).length
      · have hy : (ys xs[i])[j]? = some (ys xs[i])[j] := List.getElem?_eq_getElem hlt2
        refine .inr ⟨kg j hlt2, fun H' => Same H1 H' ∧ Same (hid (more c D) H4) (hid (more c D) H') ∧ ∃ acc, H' D = some (.lst acc) ∧ Rps K (hid (more c D) H') acc (((xs.take i).flatMap fun x => (ys x).map (f x)) ++ ((ys xs[i]).take (j + 1)).map (f xs[i])), fun H' h => ⟨(ys xs[i]).length - (j + 1), by omega, rfl, by omega, h⟩, fun v1 H6 y6 => ?_⟩
        obtain ⟨s6, r6⟩ := ky j v1 H6 _ hy y6
        have hD6 : H6 D = some (.lst acc5) := s6 _ _ hacc5
        have ok6 := ok5.mono s6
        obtain ⟨σ3, eg1, ew1, ee1⟩ := ee (hid (more c D) H6) v1 _ ((s4.hid.trans f5).trans s6.hid) (List.getElem_mem hlt2) r6
        refine eg1 _ H6 (Same.refl _) ok6 _ ⟨ew1, ?_⟩
        dsimp only [tYes]
        rw [if_pos rfl]
        refine ee1 _ H6 (Same.refl _) ok6 _ fun w H7 s7 r7 => ⟨acc5, s7 _ _ hD6, ?_, same_upd hD ((s5.trans s6).trans s7), ((f5.trans s6.hid).trans s7.hid).trans (hid_upd more_self), _, upd_same .., ?_⟩
        · rw [racc5.length, List.length_append, List.length_map, List.length_take]
          omega
        · have e3 : (ys xs[i]).take (j + 1) = (ys xs[i]).take j ++ [(ys xs[i])[j]] := by rw [List.take_add_one, hy]; rfl
          rw [e3, List.map_append, ← List.append_assoc]
          exact (((racc5.mono s6.hid).mono s7.hid).mono (hid_upd more_self)).append (.cons (r7.mono (hid_upd more_self)) .nil)
      · have e : j = (ys xs[i]).length := by omega
        subst e
        rw [List.take_length] at racc5
        exact .inl ⟨ks, s5, acc5, hacc5, by rw [etake]; exact racc5⟩
    · have e : i = xs.length := by omega
      subst e
      rw [List.take_length] at racc
      exact .inl ⟨js, q _ H2 (s1.trans s2) (rp_mkL (vs := acc) (.inl (by rw [hid_at (okH1.new hD)]; exact hacc)) (racc.mono hid_less))⟩
end
end Sp

set_option Elab.async false
set_option linter.all false
set_option maxRecDepth 100000
set_option maxHeartbeats 2000000
namespace Sp
open PySem PySem.Spec PyProof.Rows L2
open PySem.W (Datum DatumOrd Tup)
section
variable {K : PySem.W.Frag} {F F' : Hp} {σ : L2.St} {ta tb te : TE} {tt tu : TT} {t u : TS} {α β γ δ : Type} [DecidableEq α] [Datum α] [DecidableEq β] [Datum β] [DecidableEq γ] [Datum γ] [DecidableEq δ] [Datum δ]
theorem Ev.cast {x y : α} (h : Ev K F te σ x) (e : x = y) : Ev K F te σ y := e ▸ h
theorem EvT.cast {x y : Bool} (h : EvT F tt σ x) (e : x = y) : EvT F tt σ y := e ▸ h
theorem EvI.cast {wi : TI} {x y : List α} (h : EvI K F wi σ x) (e : x = y) : EvI K F wi σ y := e ▸ h
/-! ### blocks that return d -/
def EvR (K : PySem.W.Frag) (F : Hp) (t : TS) (σ : L2.St) (d : PyData) : Prop := ∀ c H, Same F (hid c H) → Okc c H → ∀ D : Ends, (∀ v H', Same H H' → Dq K (hid c H') v d → D.rt v H') → t D σ H
def EvN (F : Hp) (t : TS) (σ : L2.St) (N : Hp → L2.St → Prop) : Prop := ∀ c H, Same F (hid c H) → Okc c H → ∀ D : Ends, (∀ σ' H', Same H H' → N (hid c H') σ' → D.nx σ' H') → t D σ H
theorem EvR.mono {d : PyData} (s : Same F F') (h : EvR K F t σ d) : EvR K F' t σ d := fun c H a ok => h c H (s.trans a) ok
theorem EvR.cast {x y : PyData} (h : EvR K F t σ x) (e : x = y) : EvR K F t σ y := e ▸ h
theorem er_ret {d : PyData} (h : EvD K F te σ d) : EvR K F (tRet te) σ d := fun c H a ok D q => h c H a ok _ fun v H' s r => q v H' s r
theorem er_retT {x : α} (h : Ev K F te σ x) : EvR K F (tRet te) σ (Datum.toD x) := er_ret h
theorem er_set {x : α} {i : Nat} {d : PyData} (h : Ev K F te σ x) (k : ∀ F' v, Same F F' → Rp K F' v x → EvR K F' u (σ.set i (some v)) d) : EvR K F (tSeq (tAsg te (gName i)) u) σ d := fun c H a ok D q =>
  h c H a ok _ fun v H1 s1 r1 => k (hid c H1) v (a.trans s1.hid) r1 c H1 (Same.refl _) (ok.mono s1) D fun w H2 s2 r2 => q w H2 (s1.trans s2) r2
theorem er_setD {x : PyData} {i : Nat} {d : PyData} (h : EvD K F te σ x) (k : ∀ F' v, Same F F' → Dq K F' v x → EvR K F' u (σ.set i (some v)) d) : EvR K F (tSeq (tAsg te (gName i)) u) σ d := fun c H a ok D q =>
  h c H a ok _ fun v H1 s1 r1 => k (hid c H1) v (a.trans s1.hid) r1 c H1 (Same.refl _) (ok.mono s1) D fun w H2 s2 r2 => q w H2 (s1.trans s2) r2
theorem er_asg {x : α} {g : TG} {d : PyData} (h : Ev K F te σ x) (k : ∀ F' v, Same F F' → Rp K F' v x → ∃ σ2, EvG F' g v σ σ2 ∧ EvR K F' u σ2 d) : EvR K F (tSeq (tAsg te g) u) σ d := fun c H a ok D q =>
  h c H a ok _ fun v H1 s1 r1 => by
    obtain ⟨σ2, eg, er⟩ := k (hid c H1) v (a.trans s1.hid) r1
    exact eg c H1 (Same.refl _) (ok.mono s1) _ (er c H1 (Same.refl _) (ok.mono s1) D fun w H2 s2 r2 => q w H2 (s1.trans s2) r2)
/-- if: each branch with what follows -/
theorem er_if {b : Bool} {s1 s2 : TS} {d : PyData} (h : EvT F tt σ b) (k1 : b = true → EvR K F (tSeq s1 u) σ d) (k2 : b = false → EvR K F (tSeq s2 u) σ d) : EvR K F (tSeq (tIfS tt s1 s2) u) σ d := fun c H a ok D q =>
  h c H a ok _ fun H1 t1 => by
    cases b with
    | true => exact k1 rfl c H1 (a.trans t1.hid) (ok.mono t1) D fun w H2 t2 r2 => q w H2 (t1.trans t2) r2
    | false => exact k2 rfl c H1 (a.trans t1.hid) (ok.mono t1) D fun w H2 t2 r2 => q w H2 (t1.trans t2) r2
theorem er_ifE {b : Bool} {s1 s2 : TS} {d : PyData} (h : EvT F tt σ b) (k1 : b = true → EvR K F s1 σ d) (k2 : b = false → EvR K F s2 σ d) : EvR K F (tIfS tt s1 s2) σ d := fun c H a ok D q =>
  h c H a ok _ fun H1 t1 => by
    cases b with
    | true => exact k1 rfl c H1 (a.trans t1.hid) (ok.mono t1) D fun w H2 t2 r2 => q w H2 (t1.trans t2) r2
    | false => exact k2 rfl c H1 (a.trans t1.hid) (ok.mono t1) D fun w H2 t2 r2 => q w H2 (t1.trans t2) r2
/-- a return ends the block -/
theorem er_stop {d : PyData} (h : EvR K F (tRet te) σ d) : EvR K F (tSeq (tRet te) u) σ d := fun c H a ok D q => h c H a ok { D with nx := u D } q
theorem er_next {d : PyData} (h : EvR K F u σ d) : EvR K F (tSeq tNext u) σ d := h
theorem er_assoc {s1 s2 : TS} {d : PyData} (h : EvR K F (tSeq s1 (tSeq s2 u)) σ d) : EvR K F (tSeq (tSeq s1 s2) u) σ d := h
/-! ### blocks that go on -/
theorem EvN.mono {N : Hp → L2.St → Prop} (s : Same F F') (h : EvN F t σ N) : EvN F' t σ N := fun c H a ok => h c H (s.trans a) ok
theorem en_next {N : Hp → L2.St → Prop} (h : ∀ F', Same F F' → N F' σ) : EvN F tNext σ N := fun c H a ok D q => q σ H (Same.refl _) (h _ a)
theorem en_set {x : α} {i : Nat} {N : Hp → L2.St → Prop} (h : Ev K F te σ x) (k : ∀ F' v, Same F F' → Rp K F' v x → N F' (σ.set i (some v))) : EvN F (tAsg te (gName i)) σ N := fun c H a ok D q =>
  h c H a ok _ fun v H1 s1 r1 => q _ H1 s1 (k (hid c H1) v (a.trans s1.hid) r1)
theorem en_asg {x : α} {g : TG} {N : Hp → L2.St → Prop} (h : Ev K F te σ x) (k : ∀ F' v, Same F F' → Rp K F' v x → ∃ σ2, EvG F' g v σ σ2 ∧ N F' σ2) : EvN F (tAsg te g) σ N := fun c H a ok D q =>
  h c H a ok _ fun v H1 s1 r1 => by
    obtain ⟨σ2, eg, n⟩ := k (hid c H1) v (a.trans s1.hid) r1
    exact eg c H1 (Same.refl _) (ok.mono s1) _ (q _ H1 s1 n)
theorem en_seq {N M : Hp → L2.St → Prop} (h : EvN F t σ M) (k : ∀ F' σ', Same F F' → M F' σ' → EvN F' u σ' N) : EvN F (tSeq t u) σ N := fun c H a ok D q =>
  h c H a ok { D with nx := u D } fun σ' H1 s1 m => k (hid c H1) σ' (a.trans s1.hid) m c H1 (Same.refl _) (ok.mono s1) D fun σ2 H2 s2 n => q σ2 H2 (s1.trans s2) n
theorem en_if {b : Bool} {s1 s2 : TS} {N : Hp → L2.St → Prop} (h : EvT F tt σ b) (k1 : b = true → EvN F s1 σ N) (k2 : b = false → EvN F s2 σ N) : EvN F (tIfS tt s1 s2) σ N := fun c H a ok D q =>
  h c H a ok _ fun H1 t1 => by
    cases b with
    | true => exact k1 rfl c H1 (a.trans t1.hid) (ok.mono t1) D fun w H2 t2 r2 => q w H2 (t1.trans t2) r2
    | false => exact k2 rfl c H1 (a.trans t1.hid) (ok.mono t1) D fun w H2 t2 r2 => q w H2 (t1.trans t2) r2
/-- for x in xs: the state alone changes -/
theorem er_for {wi : TI} {g : TG} {tb : TS} {xs : List α} {d : PyData} (hi : EvI K F wi σ xs) (Pv : Nat → Hp → L2.St → Prop) (mono : ∀ i F1 F2 σ, Same F1 F2 → Pv i F1 σ → Pv i F2 σ) (h0 : Pv 0 F σ)
    (step : ∀ (i : Nat) (F' : Hp) (v : V) (x : α) (σ' : L2.St), Same F F' → xs[i]? = some x → Rp K F' v x → Pv i F' σ' → ∃ σ2, EvG F' g v σ' σ2 ∧ EvN F' tb σ2 (Pv (i + 1)))
    (rest : ∀ F' σ', Same F F' → Pv xs.length F' σ' → EvR K F' u σ' d) : EvR K F (tSeq (tFor wi g tb) u) σ d := fun c H a ok D q =>
  hi c H a ok _ fun J H1 s1 j1 hz => by
    have ok1 := ok.mono s1
    refine ⟨fun i m σ' H2 => m = xs.length - i ∧ i ≤ xs.length ∧ Same H1 H2 ∧ Pv i (hid c H2) σ', ⟨xs.length, by simp, Nat.zero_le _, Same.refl _, mono 0 _ _ _ (a.trans s1.hid) h0⟩, ?_⟩
    rintro i m σ' H2 ⟨rfl, hil, s2, p⟩
    have ok2 := ok1.mono s2
    obtain ⟨jg, js, jy⟩ := j1 c H2 s2.hid ok2
    by_cases hlt : i < xs.length
    · have hx : xs[i]? = some xs[i] := List.getElem?_eq_getElem hlt
      refine .inr ⟨jg i hlt, fun σ3 H3 => Same H1 H3 ∧ Pv (i + 1) (hid c H3) σ3, fun σ3 H3 h => ⟨xs.length - (i + 1), by omega, rfl, by omega, h⟩, fun v H3 y => ?_⟩
      obtain ⟨s3, r3⟩ := jy i v H3 _ hx y
      have s03 := (a.trans s1.hid).trans (s2.hid.trans s3.hid)
      obtain ⟨σ2, eg, en⟩ := step i (hid c H3) v _ σ' s03 hx r3 (mono i _ _ _ s3.hid p)
      refine eg c H3 (Same.refl _) (ok2.mono s3) _ (en c H3 (Same.refl _) (ok2.mono s3) _ fun σ4 H4 s4 n => ⟨(s2.trans s3).trans s4, n⟩)
    · have e : i = xs.length := by omega
      subst e
      exact .inl ⟨js, rest (hid c H2) σ' ((a.trans s1.hid).trans s2.hid) p c H2 (Same.refl _) ok2 D fun w H3 s3 r3 => q w H3 ((s1.trans s2).trans s3) r3⟩
/-! ### specs of pure defs -/
/-- on such data the def gives that -/
def SpG (K : PySem.W.Frag) (R : List PyData → PyData → Prop) : L2.Sp := fun vs H Q _ => ∃ c ds r, Okc c H ∧ DqAll K (hid c H) vs ds ∧ R ds r ∧ ∀ v H', Same H H' → Dq K (hid c H') v r → Q v H'
theorem evd_call {R : List PyData → PyData → Prop} {tr : TA} {ds : List PyData} {r : PyData} (ha : EvA K F tr σ ds) (h : R ds r) : EvD K F (tCall (SpG K R) [] E0 tr) σ r := fun c H a ok Q q =>
  ha c H a ok _ fun vs H1 s1 r1 => ⟨c, ds, r, ok.mono s1, by rw [List.append_nil]; exact r1, h, fun v H2 s2 r2 => q v H2 (s1.trans s2) r2⟩
theorem ev_call {R : List PyData → PyData → Prop} {tr : TA} {ds : List PyData} {y : α} (ha : EvA K F tr σ ds) (h : R ds (Datum.toD y)) : Ev K F (tCall (SpG K R) [] E0 tr) σ y := evd_call ha h
theorem ea_consD {x : PyData} {tr : TA} {ds : List PyData} (ha : EvD K F ta σ x) (hr : EvA K F tr σ ds) : EvA K F (tCons ta tr) σ (x :: ds) := fun c H a ok Q q =>
  ha c H a ok _ fun v H1 s1 r1 => hr c H1 (a.trans s1.hid) (ok.mono s1) _ fun vs H2 s2 r2 => q _ H2 (s1.trans s2) (.cons (dp_mono s2.hid _ _ r1) r2)
def R1 (pre : α → Prop) (f : α → β) : List PyData → PyData → Prop := fun ds r => ∃ x, ds = [Datum.toD x] ∧ pre x ∧ r = Datum.toD (f x)
def R2' (pre : α → β → Prop) (f : α → β → γ) : List PyData → PyData → Prop := fun ds r => ∃ x y, ds = [Datum.toD x, Datum.toD y] ∧ pre x y ∧ r = Datum.toD (f x y)
def R3' (pre : α → β → γ → Prop) (f : α → β → γ → δ) : List PyData → PyData → Prop := fun ds r => ∃ x y z, ds = [Datum.toD x, Datum.toD y, Datum.toD z] ∧ pre x y z ∧ r = Datum.toD (f x y z)
theorem r1_mk {pre : α → Prop} {f : α → β} {x : α} (h : pre x) : R1 pre f [Datum.toD x] (Datum.toD (f x)) := ⟨x, rfl, h, rfl⟩
theorem r2_mk {pre : α → β → Prop} {f : α → β → γ} {x : α} {y : β} (h : pre x y) : R2' pre f [Datum.toD x, Datum.toD y] (Datum.toD (f x y)) := ⟨x, y, rfl, h, rfl⟩
theorem r3_mk {pre : α → β → γ → Prop} {f : α → β → γ → δ} {x : α} {y : β} {z : γ} (h : pre x y z) : R3' pre f [Datum.toD x, Datum.toD y, Datum.toD z] (Datum.toD (f x y z)) := ⟨x, y, z, rfl, h, rfl⟩
end
/-! ### defs -/
/-- the i-th statement of the top is the def x, and the module's name x stands for it -/
def DefIn (K : PySem.W.Frag) (mg : Str → Option Value) (x : Str) (st : Stmt) : Prop := ∃ f fd, FunD K x x (defArgs st) (defBody st) (defScope st) [] [] f fd ∧ mg x = some (.ref f)
section
variable {P : Program} {w : World} {K : PySem.W.Frag} {mg : Str → Option Value} {base : Heap} {x : Str} {st : Stmt} {k : Nat} {ps N : List Str}
/-- any def by its body -/
theorem cal_any {sp : L2.Sp} (D : DefIn K mg x st) (S : FnScope N ps (defScope st)) (hb : ∀ (kV doc pm : Value) (an : Option Addr) (cdv ct : Value) (us : List Value), us.length = ps.length → bindArgs (PySem.W.fnOf x x (defArgs st) (defBody st) (defScope st) .none kV doc pm an cdv ct) ⟨us, []⟩ = pure (ps.zip us))
    (hR : ∀ vs H Q E, sp vs H Q E → vs.length = ps.length)
    (body : ∀ (f : Addr) (cdv : Value) (A : Around) (outer : List Env) (s : Shared) (H : Hp) (E : XK), Room k (A.deeper (envOfC x (defScope st) s.heap.objs.size f cdv)) →
      ∃ t, PSs (cxOf CX0 P w K mg base N x (defScope st) f cdv A outer s H E).nox (defBody st) t ∧ ∀ vs Q, sp vs H Q E → t { nx := fun _ H' => Q .non H', rt := Q } (start N vs) H) : C8.Cal P w K mg base (k + 1) x sp [] := by
  obtain ⟨f, fd, F, hm⟩ := D
  refine ⟨f, fd, ps, [], F.ok S hR fun cdv A outer s H vs Q E hr h => ?_, hm, F.kp, F.bindsN hb, .nil⟩
  obtain ⟨t, ht, q⟩ := body f cdv A outer s H E hr
  exact ⟨t, ht.nox, q vs Q h⟩
/-- a pure def by its body -/
theorem cal_pure {R : List PyData → PyData → Prop} (D : DefIn K mg x st) (S : FnScope N ps (defScope st)) (hb : ∀ (kV doc pm : Value) (an : Option Addr) (cdv ct : Value) (us : List Value), us.length = ps.length → bindArgs (PySem.W.fnOf x x (defArgs st) (defBody st) (defScope st) .none kV doc pm an cdv ct) ⟨us, []⟩ = pure (ps.zip us))
    (hR : ∀ ds r, R ds r → ds.length = ps.length)
    (body : ∀ (f : Addr) (cdv : Value) (A : Around) (outer : List Env) (s : Shared) (H : Hp) (E : XK), Room k (A.deeper (envOfC x (defScope st) s.heap.objs.size f cdv)) →
      ∃ t, PSs (cxOf CX0 P w K mg base N x (defScope st) f cdv A outer s H E).nox (defBody st) t ∧ ∀ F vs ds r, R ds r → DqAll K F vs ds → EvR K F t (start N vs) r) : C8.Cal P w K mg base (k + 1) x (SpG K R) [] := by
  refine cal_any D S hb (fun vs H Q E h => ?_) fun f cdv A outer s H E hr => ?_
  · obtain ⟨c, ds, r, ok, hv, h, q⟩ := h
    rw [DqAll.length hv]
    exact hR ds r h
  · obtain ⟨t, ht, er⟩ := body f cdv A outer s H E hr
    refine ⟨t, ht, fun vs Q h => ?_⟩
    obtain ⟨c, ds, r, ok, hv, h, q⟩ := h
    exact er (hid c H) vs ds r h hv c H (Same.refl _) ok _ fun v H' s r => q v H' s r
end
end Sp

set_option Elab.async false
set_option linter.all false
set_option maxRecDepth 100000
set_option maxHeartbeats 2000000
namespace Sp
open PySem PySem.Spec PyProof.Rows L2
open PySem.W (Datum DatumOrd Tup)
/-- the name of a datum's type -/
def tyD : PyData → String
  | .none => "NoneType"
  | .bool _ => "bool"
  | .int _ => "int"
  | .str _ => "str"
  | .list _ => "list"
  | .tuple _ => "tuple"
  | .dict _ => "dict"
theorem tyX_of {K : PySem.W.Frag} {H : Hp} : ∀ {d : PyData} {v : V}, Dq K H v d → TyX K H v (.type (tyD d))
  | .none, _, h => by cases h; exact .base .non
  | .bool _, _, h => by cases h; exact .base (.bl _)
  | .int _, _, h => by cases h; exact .base (.int _)
  | .str _, _, h => by cases h; exact .base (.str _)
  | .list _, _, h => by
    cases h with
    | lst hs _ =>
      rcases hs with hs | ⟨o, hs⟩
      · exact .base (.lst hs)
      · exact .base (.frz hs)
  | .tuple _, _, h => by
    cases h with
    | tup hs _ =>
      exact .base (.tup hs)
  | .dict _, _, h => by cases h
/-- isinstance(x, (a, b)) of data -/
def rIsaT2 (K : PySem.W.Frag) : List V → Hp → VK → Prop := fun xs H Q => ∃ (x : V) (tp : Addr) (d : PyData), Dq K H x d ∧
  ((xs = [x, .ref tp] ∧ H tp = some (.tup [.ty "list", .ty "tuple"]) ∧ Q (.bl (d.isList || d.isTuple)) H) ∨ (xs = [x, .ref tp] ∧ H tp = some (.tup [.ty "bool", .ty "str"]) ∧ Q (.bl (d.isBool || d.isStr)) H))
theorem kitLT {K : PySem.W.Frag} : ∀ d : PyData, PySem.W.kitAny K (.type (tyD d)) [.type "list", .type "tuple"] = some (d.isList || d.isTuple) := fun d => by
  have f : ∀ b : Bool, kitB (tyD d) "list" = some d.isList → kitB (tyD d) "tuple" = some d.isTuple → PySem.W.kitAny K (.type (tyD d)) [.type "list", .type "tuple"] = some (d.isList || d.isTuple) := fun b h1 h2 =>
    kitAny_cons (kit_ty h1) (fun e => by rw [e, Bool.false_or]; exact kitAny_cons (kit_ty h2) (fun e => by rw [e]; exact kitAny_nil) fun e => e) fun e => by rw [e]; rfl
  cases d <;> exact f true (by dsimp only [tyD, PyData.isList]; decide +kernel) (by dsimp only [tyD, PyData.isTuple]; decide +kernel)
theorem kitBS {K : PySem.W.Frag} : ∀ d : PyData, PySem.W.kitAny K (.type (tyD d)) [.type "bool", .type "str"] = some (d.isBool || d.isStr) := fun d => by
  have f : ∀ b : Bool, kitB (tyD d) "bool" = some d.isBool → kitB (tyD d) "str" = some d.isStr → PySem.W.kitAny K (.type (tyD d)) [.type "bool", .type "str"] = some (d.isBool || d.isStr) := fun b h1 h2 =>
    kitAny_cons (kit_ty h1) (fun e => by rw [e, Bool.false_or]; exact kitAny_cons (kit_ty h2) (fun e => by rw [e]; exact kitAny_nil) fun e => e) fun e => by rw [e]; rfl
  cases d <;> exact f true (by dsimp only [tyD, PyData.isBool]; decide +kernel) (by dsimp only [tyD, PyData.isStr]; decide +kernel)
theorem cr_isaT2 {X : Cx} : CallR X (.builtin "isinstance") (rIsaT2 X.K) := by
  intro pins s σ H xs us Q I r h
  obtain ⟨x, tp, d, hd, h⟩ := h
  rcases h with ⟨rfl, ht, q⟩ | ⟨rfl, ht, q⟩
  · exact call_isiT pins s σ H _ us Q I r ⟨x, tp, _, _, _, _, rfl, ht, .cons (.ty _) (.cons (.ty _) .nil), tyX_of hd, kitLT d, q⟩
  · exact call_isiT pins s σ H _ us Q I r ⟨x, tp, _, _, _, _, rfl, ht, .cons (.ty _) (.cons (.ty _) .nil), tyX_of hd, kitBS d, q⟩
section
variable {K : PySem.W.Frag} {F F' : Hp} {σ : L2.St} {ta tb te : TE} {tt tu : TT} {t u : TS} {α β γ δ : Type} [DecidableEq α] [Datum α] [DecidableEq β] [Datum β] [DecidableEq γ] [Datum γ] [DecidableEq δ] [Datum δ]
theorem ev_isLT {d : PyData} (ha : EvD K F ta σ d) : Ev K F (tCB (rIsaT2 K) (tCons ta (tCons (tTup (tCons (tC (.ty "list")) (tCons (tC (.ty "tuple")) tNil))) tNil))) σ (d.isList || d.isTuple) := fun c H a ok Q q =>
  ha c H a ok _ fun v H1 s1 r1 => ⟨by show 2 ≤ sizeLine; decide, fun p np => ⟨v, p, d, dp_mono ((hid_le c H1).trans (same_new np)) _ _ r1, .inl ⟨rfl, upd_same .., q _ _ (s1.trans (same_new np)) rp_mkB⟩⟩⟩
theorem ev_isBS {d : PyData} (ha : EvD K F ta σ d) : Ev K F (tCB (rIsaT2 K) (tCons ta (tCons (tTup (tCons (tC (.ty "bool")) (tCons (tC (.ty "str")) tNil))) tNil))) σ (d.isBool || d.isStr) := fun c H a ok Q q =>
  ha c H a ok _ fun v H1 s1 r1 => ⟨by show 2 ≤ sizeLine; decide, fun p np => ⟨v, p, d, dp_mono ((hid_le c H1).trans (same_new np)) _ _ r1, .inr ⟨rfl, upd_same .., q _ _ (s1.trans (same_new np)) rp_mkB⟩⟩⟩
theorem ev_isN {d : PyData} (ha : EvD K F ta σ d) : Ev K F (tIsN ta) σ d.isNoneType := fun c H a ok Q q =>
  ha c H a ok _ fun v H1 s1 r1 => by
    have e : decide (v = .non) = d.isNoneType := by
      cases r1 <;> rfl
    rw [e]
    exact q _ H1 s1 rp_mkB
end
end Sp

set_option Elab.async false
set_option linter.all false
set_option maxRecDepth 100000
set_option maxHeartbeats 2000000
namespace Sp
open PySem PySem.Spec PyProof.Rows L2
open PySem.W (Datum DatumOrd Tup listLt)
/-! ### the order of tuples of ints -/
theorem ll_irr : ∀ a : List Int, listLt a a = false
  | [] => rfl
  | x :: a => by rw [listLt, if_pos rfl]; exact ll_irr a
theorem ll_trans : ∀ {a b c : List Int}, listLt a b = true → listLt b c = true → listLt a c = true
  | [], [], _, h, _ => by rw [listLt] at h; cases h
  | [], _ :: _, [], _, h => by rw [listLt] at h; cases h
  | [], _ :: _, _ :: _, _, _ => rfl
  | _ :: _, [], _, h, _ => by rw [listLt] at h; cases h
  | _ :: _, _ :: _, [], _, h => by rw [listLt] at h; cases h
  | x :: a, y :: b, z :: c, h1, h2 => by
    rw [listLt] at h1 h2 ⊢
    have key : ∀ i j : Int, (DatumOrd.lt i j = true) = (i < j) := fun i j => by show (decide (i < j) = true) = _; rw [decide_eq_true_eq]
    by_cases e1 : x = y
    · rw [if_pos e1] at h1
      by_cases e2 : y = z
      · rw [if_pos e2] at h2
        rw [if_pos (e1.trans e2)]
        exact ll_trans h1 h2
      · rw [if_neg e2] at h2
        rw [if_neg (by rw [e1]; exact e2), e1]
        exact h2
    · rw [if_neg e1, key] at h1
      by_cases e2 : y = z
      · rw [if_pos e2] at h2
        rw [if_neg (by rw [← e2]; exact e1), ← e2, key]
        exact h1
      · rw [if_neg e2, key] at h2
        rw [if_neg (by omega), key]
        omega
theorem ll_tri : ∀ {a b : List Int}, a ≠ b → listLt a b = false → listLt b a = true
  | [], [], h, _ => absurd rfl h
  | [], _ :: _, _, h => by rw [listLt] at h; cases h
  | _ :: _, [], _, _ => rfl
  | x :: a, y :: b, h, h1 => by
    rw [listLt] at h1 ⊢
    have key : ∀ i j : Int, DatumOrd.lt i j = decide (i < j) := fun i j => rfl
    by_cases e1 : x = y
    · rw [if_pos e1] at h1
      rw [if_pos e1.symm]
      exact ll_tri (fun e => h (by rw [e1, e])) h1
    · rw [if_neg e1, key, decide_eq_false_iff_not] at h1
      rw [if_neg (Ne.symm e1), key, decide_eq_true_eq]
      omega
abbrev tlt (a b : Tup Int) : Prop := listLt a.items b.items = true
theorem tup_ext {a b : Tup Int} (h : a.items = b.items) : a = b := by
  cases a
  cases b
  cases h
  rfl
def insS (x : Tup Int) : List (Tup Int) → List (Tup Int)
  | [] => [x]
  | y :: ys => if x = y then y :: ys else if listLt x.items y.items = true then x :: y :: ys else y :: insS x ys
/-- sorted(set(xs)) -/
def sset (xs : List (Tup Int)) : List (Tup Int) := xs.foldr insS []
theorem mem_insS {x z : Tup Int} : ∀ {ys : List (Tup Int)}, z ∈ insS x ys ↔ z = x ∨ z ∈ ys
  | [] => by simp [insS]
  | y :: ys => by
    unfold insS
    by_cases h : x = y
    · rw [if_pos h]
      simp [h]
    · rw [if_neg h]
      by_cases h2 : listLt x.items y.items = true
      · rw [if_pos h2]
        simp
      · rw [if_neg h2]
        simp only [List.mem_cons, mem_insS]
        constructor
        · rintro (e | e | e)
          · exact .inr (.inl e)
          · exact .inl e
          · exact .inr (.inr e)
        · rintro (e | e | e)
          · exact .inr (.inl e)
          · exact .inl e
          · exact .inr (.inr e)
theorem asc_insS {x : Tup Int} : ∀ {ys : List (Tup Int)}, ys.Pairwise tlt → (insS x ys).Pairwise tlt
  | [], _ => by simp [insS]
  | y :: ys, h => by
    unfold insS
    by_cases h0 : x = y
    · rw [if_pos h0]
      exact h
    · rw [if_neg h0]
      rw [List.pairwise_cons] at h
      by_cases h2 : listLt x.items y.items = true
      · rw [if_pos h2, List.pairwise_cons, List.pairwise_cons]
        refine ⟨fun z hz => ?_, h⟩
        rcases List.mem_cons.mp hz with rfl | hz
        · exact h2
        · exact ll_trans h2 (h.1 z hz)
      · rw [if_neg h2, List.pairwise_cons]
        refine ⟨fun z hz => ?_, asc_insS h.2⟩
        rcases mem_insS.mp hz with rfl | hz
        · exact ll_tri (fun e => h0 (tup_ext e)) (by simpa using h2)
        · exact h.1 z hz
theorem asc_sset : ∀ xs : List (Tup Int), (sset xs).Pairwise tlt
  | [] => List.Pairwise.nil
  | x :: xs => asc_insS (asc_sset xs)
theorem mem_sset {z : Tup Int} : ∀ {xs : List (Tup Int)}, z ∈ sset xs ↔ z ∈ xs
  | [] => Iff.rfl
  | x :: xs => by
    show z ∈ insS x (sset xs) ↔ _
    rw [mem_insS, mem_sset, List.mem_cons]
/-- two ascending lists of the same members -/
theorem asc_unique : ∀ {xs ys : List (Tup Int)}, xs.Pairwise tlt → ys.Pairwise tlt → (∀ z, z ∈ xs ↔ z ∈ ys) → xs = ys
  | [], [], _, _, _ => rfl
  | [], y :: ys, _, _, h => absurd ((h y).mpr (by simp)) (by simp)
  | x :: xs, [], _, _, h => absurd ((h x).mp (by simp)) (by simp)
  | x :: xs, y :: ys, h1, h2, h => by
    rw [List.pairwise_cons] at h1 h2
    have nx : ∀ z ∈ xs, z ≠ x := fun z hz e => by
      have := h1.1 z hz
      rw [e] at this
      exact absurd ((ll_irr _).symm.trans this) Bool.false_ne_true
    have ny : ∀ z ∈ ys, z ≠ y := fun z hz e => by
      have := h2.1 z hz
      rw [e] at this
      exact absurd ((ll_irr _).symm.trans this) Bool.false_ne_true
    have exy : x = y := by
      have mx := (h x).mp (by simp)
      have my := (h y).mpr (by simp)
      rcases List.mem_cons.mp mx with e | mx
      · exact e
      · rcases List.mem_cons.mp my with e | my
        · exact e.symm
        · have := ll_trans (h1.1 y my) (h2.1 x mx)
          rw [ll_irr] at this
          cases this
    subst exy
    rw [asc_unique h1.2 h2.2 fun z => ?_]
    have hz := h z
    simp only [List.mem_cons] at hz
    constructor
    · intro m
      rcases hz.mp (.inr m) with e | e
      · exact absurd e (nx z m)
      · exact e
    · intro m
      rcases hz.mpr (.inr m) with e | e
      · exact absurd e (ny z m)
      · exact e
/-- the code of bounded lists of one length goes with the order -/
theorem code_ll {B : Int} : ∀ {a b : List Int}, a.length = b.length → TS.Bd B a → TS.Bd B b → a ≠ b → TS.code B a ≤ TS.code B b → listLt a b = true
  | [], [], _, _, _, h, _ => absurd rfl h
  | [], _ :: _, h, _, _, _, _ => by simp at h
  | _ :: _, [], h, _, _, _, _ => by simp at h
  | x :: a, y :: b, hl, ha, hb, hne, hle => by
    have hl' : a.length = b.length := by simpa using hl
    rw [listLt]
    by_cases e : x = y
    · subst e
      rw [if_pos rfl]
      refine code_ll hl' ha.tail hb.tail (fun e => hne (by rw [e])) ?_
      have := TS.code_same (B := B) (d := x) hl'.symm
      have h2 : ¬ TS.code B (x :: b) < TS.code B (x :: a) := by omega
      rw [TS.code_same hl'.symm] at h2
      omega
    · rw [if_neg e]
      show decide (x < y) = true
      rw [decide_eq_true_eq]
      rcases Int.lt_trichotomy x y with h | h | h
      · exact h
      · exact absurd h e
      · have := TS.code_lt (B := B) hl'.symm hb.tail ha.tail h
        omega
section
variable {K : PySem.W.Frag} {F F' : Hp} {σ : L2.St} {ta tb te : TE} {P : Program} {w : World}
/-- tuples of ints with their places -/
theorem places {c : Addr → Bool} {H : Hp} : ∀ {vs : List V} {xs : List (Tup Int)}, Rps K (hid c H) vs xs → ∃ ks : List (Addr × List Int), vs = (ks.map fun p => V.ref p.1) ∧ xs = (ks.map fun p => Tup.mk p.2) ∧ ∀ p ∈ ks, hid c H p.1 = some (.tup (p.2.map V.int))
  | _, [], h => by cases (show DqAll K _ _ [] from h); exact ⟨[], rfl, rfl, by simp⟩
  | _, x :: xs, h => by
    cases (show DqAll K _ _ (Datum.toD x :: xs.map Datum.toD) from h) with
    | cons h1 h2 =>
      obtain ⟨ks, e1, e2, e3⟩ := places h2
      obtain ⟨a, vs, rfl, hs, hr⟩ := rp_tupT (show Rp K _ _ x from h1)
      rw [hr.ints] at hs
      refine ⟨(a, x.items) :: ks, by rw [e1]; rfl, by rw [e2]; rfl, fun p hp => ?_⟩
      rcases List.mem_cons.mp hp with rfl | hp
      · exact hs
      · exact e3 p hp
theorem places_rps {c : Addr → Bool} {H : Hp} : ∀ {ks : List (Addr × List Int)}, (∀ p ∈ ks, hid c H p.1 = some (.tup (p.2.map V.int))) → Rps K (hid c H) (ks.map fun p => V.ref p.1) (ks.map fun p => Tup.mk p.2)
  | [], _ => Rps.nil
  | p :: ks, h => Rps.cons (rp_mkT (h p (by simp)) rps_ints) (places_rps fun q hq => h q (by simp [hq]))
abbrev tSset (K : PySem.W.Frag) (P : Program) (w : World) (te : TE) : TE := tCB (rSortedT K P w) (tCons (tCB (rSetOfT K P w) (tCons te tNil)) tNil)
theorem ev_sset {xs : List (Tup Int)} {d : Nat} {B : Int} (ha : Ev K F ta σ xs) (hlen : xs.length < 64) (hd : 1 ≤ d) (hb : ∀ x ∈ xs, x.items.length = d ∧ TS.Bd B x.items) : Ev K F (tSset K P w ta) σ (sset xs) := fun c H a ok Q q =>
  ha c H a ok _ fun v H1 s1 r1 => by
    obtain ⟨b, vs, rfl, hs, hr⟩ := rp_lst r1
    obtain ⟨ks, e1, e2, e3⟩ := places hr
    rw [e1] at hs
    have ok1 := ok.mono s1
    refine ⟨b, ks, rfl, .inl (rd_le hs), fun p hp => sqt_le (.inl (.inl (e3 p hp))), by rw [e2, List.length_map] at hlen; exact hlen, fun a L na hL1 hL2 => ?_⟩
    have s2 : Same H1 (upd H1 a (SetTO P w a L)) := same_new na
    refine ⟨a, L, d, B, rfl, upd_same .., fun p hp => Evl.ex_t s2 (sqt_le (.inl (.inl (e3 p (hL1 p hp))))), hd, fun p hp => ?_, fun L' p pm hnd hlt pw np => ?_⟩
    · have := hb (Tup.mk p.2) (by rw [e2]; exact List.mem_map.mpr ⟨p, hL1 p hp, rfl⟩)
      exact this
    · have s3 : Same (upd H1 a (SetTO P w a L)) (upd (upd H1 a (SetTO P w a L)) p (.lst (L'.map fun q => V.ref q.1))) := same_new np
      have hmem : ∀ q ∈ L', q ∈ ks := fun q hq => hL1 q (pm.mem_iff.mp hq)
      have e4 : (L'.map fun q => Tup.mk q.2) = sset xs := by
        refine asc_unique ?_ (asc_sset xs) fun z => ?_
        · rw [List.pairwise_map]
          have pne : L'.Pairwise fun q r => q.2 ≠ r.2 := List.pairwise_map.mp hnd
          refine (List.Pairwise.and pw pne).imp_of_mem fun {q r} hq hr h => ?_
          have bq := hb (Tup.mk q.2) (by rw [e2]; exact List.mem_map.mpr ⟨q, hmem q hq, rfl⟩)
          have br := hb (Tup.mk r.2) (by rw [e2]; exact List.mem_map.mpr ⟨r, hmem r hr, rfl⟩)
          exact code_ll (bq.1.trans br.1.symm) bq.2 br.2 h.2 h.1
        · rw [mem_sset, e2]
          constructor
          · intro h
            obtain ⟨q, hq, rfl⟩ := List.mem_map.mp h
            exact List.mem_map.mpr ⟨q, hmem q hq, rfl⟩
          · intro h
            obtain ⟨q, hq, rfl⟩ := List.mem_map.mp h
            obtain ⟨r, hr, e⟩ := List.mem_map.mp (hL2 q hq)
            exact List.mem_map.mpr ⟨r, pm.mem_iff.mpr hr, by rw [e]⟩
      refine q _ _ (s1.trans (s2.trans s3)) ?_
      rw [← e4]
      refine rp_mkL (.inl (hid_new ((ok1.mono s2).new np))) ((places_rps fun r hr => ?_).mono (s2.trans s3).hid)
      exact e3 r (hmem r hr)
end
end Sp

set_option Elab.async false
set_option linter.all false
set_option maxRecDepth 100000
set_option maxHeartbeats 2000000
namespace Sp
open PySem PySem.Spec PyProof.Rows L2
open PySem.W (Datum DatumOrd Tup)
instance {α : Type} : Inhabited (Tup α) := ⟨⟨[]⟩⟩
/-- the item at i -/
def nth {α : Type} [Inhabited α] (xs : List α) (i : Int) : α := xs[i.toNat]?.getD default
theorem nth_at {α : Type} [Inhabited α] {xs : List α} {i : Int} (h : 0 ≤ i ∧ i < xs.length) : atI xs i = some (nth xs i) := by
  obtain ⟨h0, h1⟩ := h
  have e : i = ((i.toNat : Nat) : Int) := (Int.toNat_of_nonneg h0).symm
  have hlt : i.toNat < xs.length := by omega
  rw [e]
  refine atI_nat ?_
  unfold nth
  rw [Int.toNat_natCast, List.getElem?_eq_getElem hlt]
  rfl
theorem nth_cons0 {α : Type} [Inhabited α] {x : α} {xs : List α} : nth (x :: xs) 0 = x := rfl
theorem nth_nat {α : Type} [Inhabited α] {xs : List α} {i : Nat} (h : i < xs.length) : nth xs (i : Int) = xs[i] := by
  unfold nth
  rw [Int.toNat_natCast, List.getElem?_eq_getElem h]
  rfl
theorem nth_get? {α : Type} [Inhabited α] {xs : List α} {i : Nat} {x : α} (h : xs[i]? = some x) : nth xs (i : Int) = x := by
  unfold nth
  rw [Int.toNat_natCast, h]
  rfl
theorem nth_mem {α : Type} [Inhabited α] {xs : List α} {i : Int} (h : 0 ≤ i ∧ i < xs.length) : nth xs i ∈ xs := by
  have hlt : i.toNat < xs.length := by omega
  unfold nth
  rw [List.getElem?_eq_getElem hlt]
  exact List.getElem_mem hlt
section
variable {K : PySem.W.Frag} {F F' : Hp} {σ : L2.St} {ta tb te : TE} {tt tu : TT} {t u : TS} {α β γ δ : Type} [DecidableEq α] [Datum α] [DecidableEq β] [Datum β] [DecidableEq γ] [Datum γ] [DecidableEq δ] [Datum δ]
theorem ev_nthL [Inhabited α] {x : List α} {i : Int} (ha : Ev K F ta σ x) (hb : Ev K F tb σ i) (h : 0 ≤ i ∧ i < x.length) : Ev K F (tOp (rIx K) ta tb) σ (nth x i) := ev_ixL ha hb (nth_at h)
theorem ev_nthT [Inhabited α] {x : Tup α} {i : Int} (ha : Ev K F ta σ x) (hb : Ev K F tb σ i) (h : 0 ≤ i ∧ i < x.items.length) : Ev K F (tOp (rIx K) ta tb) σ (nth x.items i) := ev_ixT ha hb (nth_at h)
theorem lcb_name {P : L2.St → Prop} {v : V} {i : Nat} (h : P (σ.set i (some v))) : ∃ σ2, EvG F (gName i) v σ σ2 ∧ P σ2 := ⟨_, eg_name, h⟩
theorem lcb_two {P : L2.St → Prop} {v : V} {x : α × β} {i j : Nat} (r : Rp K F v x) (h : ∀ v1 v2, Rp K F v1 x.1 → Rp K F v2 x.2 → P ((σ.set i (some v1)).set j (some v2))) : ∃ σ2, EvG F (gTup K 2 (gCons (gName i) (gCons (gName j) gNil))) v σ σ2 ∧ P σ2 := by
  obtain ⟨v1, v2, r1, r2, eg⟩ := eg_two (σ := σ) (i := i) (j := j) r
  exact ⟨_, eg, h v1 v2 r1 r2⟩
theorem lcb_twoT {P : L2.St → Prop} {v : V} {t : Tup α} {x y : α} {i j : Nat} (r : Rp K F v t) (e : t.items = [x, y]) (h : ∀ v1 v2, Rp K F v1 x → Rp K F v2 y → P ((σ.set i (some v1)).set j (some v2))) : ∃ σ2, EvG F (gTup K 2 (gCons (gName i) (gCons (gName j) gNil))) v σ σ2 ∧ P σ2 := by
  obtain ⟨v1, v2, r1, r2, eg⟩ := eg_twoT (σ := σ) (i := i) (j := j) r e
  exact ⟨_, eg, h v1 v2 r1 r2⟩
theorem lcb_twoL {P : L2.St → Prop} {v : V} {t : List α} {x y : α} {i j : Nat} (r : Rp K F v t) (e : t = [x, y]) (h : ∀ v1 v2, Rp K F v1 x → Rp K F v2 y → P ((σ.set i (some v1)).set j (some v2))) : ∃ σ2, EvG F (gUnl K 2 (gCons (gName i) (gCons (gName j) gNil))) v σ σ2 ∧ P σ2 := by
  obtain ⟨v1, v2, r1, r2, eg⟩ := eg_twoL (σ := σ) (i := i) (j := j) r e
  exact ⟨_, eg, h v1 v2 r1 r2⟩
theorem er_retE {x : α} {d : PyData} (h : Ev K F te σ x) (e : Datum.toD x = d) : EvR K F (tRet te) σ d := e ▸ er_retT h
theorem er_retS {x : α} {d : PyData} (h : Ev K F te σ x) (e : Datum.toD x = d) : EvR K F (tSeq (tRet te) u) σ d := er_stop (er_retE h e)
theorem er_par {x : α} {y : β} {i j : Nat} {d : PyData} (ha : Ev K F ta σ x) (hb : Ev K F tb σ y) (k : ∀ F' v w, Same F F' → Rp K F' v x → Rp K F' w y → EvR K F' u ((σ.set i (some v)).set j (some w)) d) : EvR K F (tSeq (tPar i j (tCons ta (tCons tb tNil))) u) σ d := fun c H a ok D q =>
  ev2 ha hb a ok fun v w H1 s1 ok1 r1 r2 => ⟨v, w, rfl, k (hid c H1) v w (a.trans s1.hid) r1 r2 c H1 (Same.refl _) ok1 D fun z H2 s2 r => q z H2 (s1.trans s2) r⟩
theorem er_asgB {x : α} {g : TG} {d : PyData} (h : Ev K F te σ x) (k : ∀ F' v, Same F F' → Rp K F' v x → ∃ σ2, EvG F' g v σ σ2 ∧ EvR K F' u σ2 d) : EvR K F (tSeq (tAsg te g) u) σ d := er_asg h k
theorem er_never {d : PyData} (h : False) : EvR K F t σ d := h.elim
/-- list(..) or other, the first not empty or else the other -/
theorem ev_orL {x y : List α} (ha : Ev K F ta σ x) (hb : Ev K F tb σ y) : Ev K F (tOrT K ta tb) σ (if x.isEmpty then y else x) := fun c H a ok Q q =>
  ha c H a ok _ fun v H1 s1 r1 => by
    obtain ⟨b, vs, rfl, hs, hr⟩ := rp_lst r1
    have hl := hr.length
    refine ⟨!vs.isEmpty, .inl ⟨vs, .inl (rd_le hs), rfl⟩, ?_⟩
    cases x with
    | nil =>
      have e : vs = [] := List.length_eq_zero_iff.mp hl
      subst e
      exact hb c H1 (a.trans s1.hid) (ok.mono s1) _ fun w H2 s2 r2 => q w H2 (s1.trans s2) r2
    | cons x xs =>
      cases vs with
      | nil => simp at hl
      | cons w ws => exact q _ H1 s1 r1
end
end Sp

set_option Elab.async false
set_option linter.all false
set_option maxRecDepth 100000
set_option maxHeartbeats 2000000
namespace Sp
open PySem PySem.Spec PyProof.Rows L2
open PySem.W (Datum DatumOrd Tup)
section
variable {K : PySem.W.Frag} {F F' : Hp} {σ : L2.St} {ta tb te : TE} {tt tu : TT} {t u : TS} {α β γ δ : Type} [DecidableEq α] [Datum α] [DecidableEq β] [Datum β] [DecidableEq γ] [Datum γ] [DecidableEq δ] [Datum δ]
theorem dq1 {vs : List V} {d0 : PyData} (h : DqAll K F vs [d0]) : ∃ v0, vs = [v0] ∧ Dq K F v0 d0 := by
  cases h with
  | cons h0 h =>
    cases h
    exact ⟨_, rfl, h0⟩
theorem dq2 {vs : List V} {d0 d1 : PyData} (h : DqAll K F vs [d0, d1]) : ∃ v0 v1, vs = [v0, v1] ∧ Dq K F v0 d0 ∧ Dq K F v1 d1 := by
  cases h with
  | cons h0 h =>
    obtain ⟨_, rfl, h1⟩ := dq1 h
    exact ⟨_, _, rfl, h0, h1⟩
theorem dq3 {vs : List V} {d0 d1 d2 : PyData} (h : DqAll K F vs [d0, d1, d2]) : ∃ v0 v1 v2, vs = [v0, v1, v2] ∧ Dq K F v0 d0 ∧ Dq K F v1 d1 ∧ Dq K F v2 d2 := by
  cases h with
  | cons h0 h =>
    obtain ⟨_, _, rfl, h1, h2⟩ := dq2 h
    exact ⟨_, _, _, rfl, h0, h1, h2⟩
theorem er_retD {x d : PyData} (h : EvD K F te σ x) (e : x = d) : EvR K F (tRet te) σ d := e ▸ er_ret h
/-- the length of any tuple -/
theorem ev_lenDT {ds : List PyData} (ha : EvD K F ta σ (.tuple ds)) : Ev K F (tCB (rLenX K) (tCons ta tNil)) σ (ds.length : Int) := fun c H a ok Q q =>
  ha c H a ok _ fun v H1 s1 r1 => by
    cases r1 with
    | @tup a xs _ hs hr =>
      have e : (xs.length : Int) = (ds.length : Int) := by rw [DqAll.length hr]
      exact ⟨_, xs, rfl, .inr (sqt_le (.inl (.inl hs))), by rw [e]; exact q _ H1 s1 rp_mkI⟩
end
theorem mem_rangeL {a b x : Int} (h : x ∈ rangeL a b) : a ≤ x ∧ x < b := by
  unfold rangeL at h
  obtain ⟨i, hi, rfl⟩ := List.mem_map.mp h
  rw [List.mem_range] at hi
  omega
theorem mem_zip {α β : Type} {xs : List α} {ys : List β} {p : α × β} (h : p ∈ xs.zip ys) : p.1 ∈ xs ∧ p.2 ∈ ys := by
  obtain ⟨a, b⟩ := p
  exact ⟨(List.of_mem_zip h).1, (List.of_mem_zip h).2⟩
end Sp

set_option Elab.async false
set_option linter.all false
set_option maxRecDepth 100000
set_option maxHeartbeats 2000000
namespace Sp
open PySem PySem.Spec PyProof.Rows L2
open PySem.W (Datum DatumOrd Tup)
section
variable {K : PySem.W.Frag} {F F' : Hp} {σ : L2.St} {ta tb te : TE} {tt tu : TT} {t u : TS}
theorem DqAll.mono {vs : List V} {ds : List PyData} (s : Same F F') (h : DqAll K F vs ds) : DqAll K F' vs ds := dpAll_mono s _ _ h
theorem Dq.mono {v : V} {d : PyData} (s : Same F F') (h : Dq K F v d) : Dq K F' v d := dp_mono s _ _ h
/-- raw items -/
def SrcD (K : PySem.W.Frag) (F : Hp) (J : It) (xs : List PyData) : Prop := ∀ c H, Same F (hid c H) → Okc c H →
  (∀ i, i < xs.length → J.go i H) ∧ J.stop xs.length H ∧ ∀ i v H' x, xs[i]? = some x → J.yld i H v H' → Same H H' ∧ Dq K (hid c H') v x
theorem SrcD.mono {J : It} {xs : List PyData} (s : Same F F') (h : SrcD K F J xs) : SrcD K F' J xs := fun c H a ok => h c H (s.trans a) ok
theorem srcD_list {a : Addr} {vs : List V} {xs : List PyData} (h : Rd F a (.lst vs)) (r : DqAll K F vs xs) : SrcD K F (Itl K a) xs := fun c H s ok => by
  have hs : SqL K H a vs := .inl (rd_le (Evl.ex_rd s h))
  have hl := r.length
  refine ⟨fun i hi => ⟨vs, vs[i]'(by omega), hs, List.getElem?_eq_getElem (by omega)⟩, ⟨vs, hs, by omega⟩, fun i v H' x hx y => ?_⟩
  obtain ⟨rfl, hy⟩ := y
  obtain ⟨w, hw, rw'⟩ := r.get hx
  have := hy vs hs
  rw [hw] at this
  cases this
  exact ⟨Same.refl _, rw'.mono s⟩
theorem srcD_tup {a : Addr} {vs : List V} {xs : List PyData} (h : SqT K F a vs) (r : DqAll K F vs xs) : SrcD K F (Itt K a) xs := fun c H s ok => by
  have hs : SqT K H a vs := sqt_le (Evl.ex_t s h)
  have hl := r.length
  refine ⟨fun i hi => ⟨vs, vs[i]'(by omega), hs, List.getElem?_eq_getElem (by omega)⟩, ⟨vs, hs, by omega⟩, fun i v H' x hx y => ?_⟩
  obtain ⟨rfl, hy⟩ := y
  obtain ⟨w, hw, rw'⟩ := r.get hx
  have := hy vs hs
  rw [hw] at this
  cases this
  exact ⟨Same.refl _, rw'.mono s⟩
def pairD (a b : PyData) : PyData := .tuple [a, b]
theorem srcD_zip2 {J1 J2 : It} {xs ys : List PyData} (h1 : SrcD K F J1 xs) (h2 : SrcD K F J2 ys) (hl : xs.length ≤ ys.length) : SrcD K F (ItN [J1, J2]) (xs.zipWith pairD ys) := fun c H s ok => by
  have hz : (xs.zipWith pairD ys).length = xs.length := by rw [List.length_zipWith]; omega
  obtain ⟨g1, s1, y1⟩ := h1 c H s ok
  refine ⟨fun i hi => ⟨g1 i (by omega), fun v H1 y => ?_⟩, ⟨J1, [J2], rfl, by rw [hz]; exact s1⟩, fun i v H' p hp y => ?_⟩
  · have hx : xs[i]? = some (xs[i]'(by omega)) := List.getElem?_eq_getElem (by omega)
    obtain ⟨sm, r⟩ := y1 i v H1 _ hx y
    exact ⟨(h2 c H1 (s.trans sm.hid) (ok.mono sm)).1 i (by omega), fun _ _ _ => trivial⟩
  · rw [List.getElem?_zipWith_eq_some] at hp
    obtain ⟨x, z, hx, hz, rfl⟩ := hp
    obtain ⟨vs, H2, T, hc, rfl, hT, rfl⟩ := y
    cases hc with
    | cons ya hc =>
      cases hc with
      | cons yb hc =>
        cases hc
        obtain ⟨sm, r⟩ := y1 _ _ _ _ hx ya
        obtain ⟨sm2, r2⟩ := (h2 c _ (s.trans sm.hid) (ok.mono sm)).2.2 _ _ _ _ hz yb
        exact ⟨(sm.trans sm2).trans (same_new hT), .tup (sqt_new ((ok.mono sm).mono sm2) hT) (.cons ((r.mono sm2.hid).mono (same_new hT).hid) (.cons (r2.mono (same_new hT).hid) .nil))⟩
def EvID (K : PySem.W.Frag) (F : Hp) (wi : TI) (σ : L2.St) (xs : List PyData) : Prop := ∀ c H, Same F (hid c H) → Okc c H → ∀ R : It → Hp → Prop, (∀ J H', Same H H' → SrcD K (hid c H') J xs → xs.length ≤ sizeLine → R J H') → wi σ H R
theorem eid_list {xs : List PyData} (ha : EvD K F ta σ (.list xs)) : EvID K F (iSeqX K ta) σ xs := fun c H a ok R q =>
  ha c H a ok _ fun v H1 s1 r1 => by
    cases r1 with
    | @lst b vs _ hs hr => exact ⟨b, vs, rfl, .inl ⟨.inl (rd_le hs), fun hz => q _ H1 s1 (srcD_list hs hr) (by rw [← DqAll.length hr]; exact hz)⟩⟩
theorem eid_tup {xs : List PyData} (ha : EvD K F ta σ (.tuple xs)) : EvID K F (iSeqX K ta) σ xs := fun c H a ok R q =>
  ha c H a ok _ fun v H1 s1 r1 => by
    cases r1 with
    | @tup b vs _ hs hr => exact ⟨b, vs, rfl, .inr ⟨sqt_le (.inl (.inl hs)), fun hz => q _ H1 s1 (srcD_tup (.inl (.inl hs)) hr) (by rw [← DqAll.length hr]; exact hz)⟩⟩
def EvZD (K : PySem.W.Frag) (F : Hp) (t : TE) (σ : L2.St) (xs : List PyData) : Prop := ∀ c H, Same F (hid c H) → Okc c H → ∀ Q : VK, (∀ v H' J, Same H H' → ZArg K H' v J → SrcD K (hid c H') J xs → (ZLen K H' v → xs.length ≤ sizeLine) → Q v H') → t σ H Q
theorem ezd_list {xs : List PyData} (ha : EvD K F ta σ (.list xs)) : EvZD K F ta σ xs := fun c H a ok Q q =>
  ha c H a ok _ fun v H1 s1 r1 => by
    cases r1 with
    | @lst b vs _ hs hr => exact q _ H1 _ s1 ⟨b, vs, rfl, .inl ⟨.inl (rd_le hs), rfl⟩⟩ (srcD_list hs hr) fun hz => by rw [← DqAll.length hr]; exact hz b vs rfl (.inl (.inl (rd_le hs)))
theorem ezd_tup {xs : List PyData} (ha : EvD K F ta σ (.tuple xs)) : EvZD K F ta σ xs := fun c H a ok Q q =>
  ha c H a ok _ fun v H1 s1 r1 => by
    cases r1 with
    | @tup b vs _ hs hr => exact q _ H1 _ s1 ⟨b, vs, rfl, .inr ⟨sqt_le (.inl (.inl hs)), rfl⟩⟩ (srcD_tup (.inl (.inl hs)) hr) fun hz => by rw [← DqAll.length hr]; exact hz b vs rfl (.inr (sqt_le (.inl (.inl hs))))
theorem eid_zip2 {xs ys : List PyData} (ha : EvZD K F ta σ xs) (hb : EvZD K F tb σ ys) (hl : xs.length ≤ ys.length) : EvID K F (iZipX K (tCons ta (tCons tb tNil))) σ (xs.zipWith pairD ys) := fun c H a ok R q =>
  ha c H a ok _ fun v H1 J1 s1 z1 j1 l1 => hb c H1 (a.trans s1.hid) (ok.mono s1) _ fun w H2 J2 s2 z2 j2 l2 =>
    ⟨by simp, by simp, [J1, J2], .cons (zarg_mono s2 z1) (.cons z2 .nil), fun hz => q _ H2 (s1.trans s2) (srcD_zip2 (j1.mono s2.hid) j2 hl) (by
      rw [List.length_zipWith]
      have := l2 (hz w (by simp))
      omega)⟩
/-- [e for t in raw items] -/
theorem ev_lcD {wi : TI} {g : TG} {vs : List Nat} {xs : List PyData} {f : PyData → PyData} (hi : EvID K F wi σ xs)
    (body : ∀ (F' : Hp) (v : V) (x : PyData), Same F F' → x ∈ xs → Dq K F' v x → ∃ σ2, EvG F' g v (wipe σ vs) σ2 ∧ wipe σ2 vs = wipe σ vs ∧ EvD K F' te σ2 (f x)) :
    EvD K F (tLc wi g tYes te vs) σ (.list (xs.map f)) := fun c H a ok Q q =>
  hi c H a ok _ fun J H1 s1 j1 hz D hD => by
    have okH1 := ok.mono s1
    have fz : ∀ H2, Same H1 H2 → Same (hid c H1) (hid (more c D) H2) := fun H2 s => hid_more hD s
    have okD : ∀ H2, Same H1 H2 → Cel (H2 D) → Okc (more c D) H2 := fun H2 s h => okc_more (okH1.mono s) h
    refine ⟨fun i m H2 => m = xs.length - i ∧ i ≤ xs.length ∧ Same H1 H2 ∧ ∃ acc, H2 D = some (.lst acc) ∧ DqAll K (hid (more c D) H2) acc ((xs.take i).map f), ⟨xs.length, by simp, Nat.zero_le _, same_upd hD (Same.refl _), [], upd_same .., by simpa using DqAll.nil⟩, ?_⟩
    rintro i m H2 ⟨rfl, hil, s2, acc, hacc, racc⟩
    have hDn : Cel (H2 D) := by rw [hacc]; exact cel_lst
    obtain ⟨jg, js, jy⟩ := j1 (more c D) H2 (fz H2 s2) (okD H2 s2 hDn)
    by_cases hlt : i < xs.length
    · have hx : xs[i]? = some xs[i] := List.getElem?_eq_getElem hlt
      refine .inr ⟨jg i hlt, fun H' => Same H1 H' ∧ ∃ acc, H' D = some (.lst acc) ∧ DqAll K (hid (more c D) H') acc ((xs.take (i + 1)).map f), fun H' h => ⟨xs.length - (i + 1), by omega, rfl, by omega, h⟩, fun v H3 y => ?_⟩
      obtain ⟨s3, r3⟩ := jy i v H3 _ hx y
      have s13 := s2.trans s3
      have hD3 : H3 D = some (.lst acc) := s3 _ _ hacc
      have ok3 := okD H3 s13 (by rw [hD3]; exact cel_lst)
      obtain ⟨σ2, eg, ew, ee⟩ := body (hid (more c D) H3) v xs[i] (a.trans (s1.hid.trans (fz H3 s13))) (List.getElem_mem hlt) r3
      refine eg _ H3 (Same.refl _) ok3 _ ⟨ew, ?_⟩
      dsimp only [tYes]
      rw [if_pos rfl]
      have et : xs.take (i + 1) = xs.take i ++ [xs[i]] := by rw [List.take_add_one, hx]; rfl
      refine ee _ H3 (Same.refl _) ok3 _ fun w H5 s5 r5 => ⟨acc, s5 _ _ hD3, ?_, same_upd hD (s13.trans s5), _, upd_same .., ?_⟩
      · rw [DqAll.length racc, List.length_map, List.length_take]
        omega
      · rw [et, List.map_append]
        exact (((racc.mono s3.hid).mono s5.hid).mono (hid_upd more_self)).append (.cons (r5.mono (hid_upd more_self)) .nil)
    · have e : i = xs.length := by omega
      subst e
      rw [List.take_length] at racc
      exact .inl ⟨js, q _ H2 (s1.trans s2) (.lst (.inl (by rw [hid_at (okH1.new hD)]; exact hacc)) (racc.mono hid_less))⟩
theorem evd_tup {xs : List PyData} (ha : EvD K F ta σ (.list xs)) : EvD K F (tCB (rTupleX K) (tCons ta tNil)) σ (.tuple xs) := fun c H a ok Q q =>
  ha c H a ok _ fun v H1 s1 r1 => by
    cases r1 with
    | @lst b vs _ hs hr => exact ⟨b, vs, rfl, .inl ⟨.inl (rd_le hs), fun l nl => q _ _ (s1.trans (same_new nl)) (.tup (sqt_new (ok.mono s1) nl) (hr.mono (same_new nl).hid))⟩⟩
theorem ev_lenDL {ds : List PyData} (ha : EvD K F ta σ (.list ds)) : Ev K F (tCB (rLenX K) (tCons ta tNil)) σ (ds.length : Int) := fun c H a ok Q q =>
  ha c H a ok _ fun v H1 s1 r1 => by
    cases r1 with
    | @lst a xs _ hs hr =>
      have e : (xs.length : Int) = (ds.length : Int) := by rw [DqAll.length hr]
      exact ⟨_, xs, rfl, .inl (.inl (rd_le hs)), by rw [e]; exact q _ H1 s1 rp_mkI⟩
theorem evd_if {b : Bool} {x y : PyData} (h : EvT F tt σ b) (k1 : b = true → EvD K F ta σ x) (k2 : b = false → EvD K F tb σ y) : EvD K F (tIf tt ta tb) σ (if b = true then x else y) := fun c H a ok Q q => h c H a ok _ fun H1 s1 => by
  cases b with
  | true => exact k1 rfl c H1 (a.trans s1.hid) (ok.mono s1) Q fun w H2 s2 r2 => q w H2 (s1.trans s2) r2
  | false => exact k2 rfl c H1 (a.trans s1.hid) (ok.mono s1) Q fun w H2 s2 r2 => q w H2 (s1.trans s2) r2
theorem EvD.cast {x y : PyData} (h : EvD K F te σ x) (e : x = y) : EvD K F te σ y := e ▸ h
theorem lcb_pairD {P : L2.St → Prop} {v : V} {x y : PyData} {i j : Nat} (r : Dq K F v (pairD x y)) (h : ∀ v1 v2, Dq K F v1 x → Dq K F v2 y → P ((σ.set i (some v1)).set j (some v2))) : ∃ σ2, EvG F (gTup K 2 (gCons (gName i) (gCons (gName j) gNil))) v σ σ2 ∧ P σ2 := by
  cases (show Dq K F v (.tuple [x, y]) from r) with
  | tup hs ha =>
    cases ha with
    | cons h1 h2 =>
      cases h2 with
      | cons h3 h4 =>
        cases h4
        exact ⟨_, fun c H s ok Q q => ⟨_, [_, _], rfl, sqt_le (Evl.ex_t s (.inl (.inl hs))), rfl, _, [_], rfl, _, [], rfl, rfl, q⟩, h _ _ h1 h3⟩
end
/-! ### a def that is never called (for the ends of recursions) -/
theorem cal_never {P : Program} {w : World} {K : PySem.W.Frag} {mg : Str → Option Value} {base : Heap} {x : Str} {st : Stmt} {k : Nat} {ps N : List Str} (D : DefIn K mg x st) (S : FnScope N ps (defScope st)) (hb : ∀ (kV doc pm : Value) (an : Option Addr) (cdv ct : Value) (us : List Value), us.length = ps.length → bindArgs (PySem.W.fnOf x x (defArgs st) (defBody st) (defScope st) .none kV doc pm an cdv ct) ⟨us, []⟩ = pure (ps.zip us)) :
    C8.Cal P w K mg base (k + 1) x (SpG K fun _ _ => False) [] := by
  obtain ⟨f, fd, F, hm⟩ := D
  refine ⟨f, fd, ps, [], F.ok S (fun vs H Q E h => ?_) fun cdv A outer s H vs Q E hr h => ?_, hm, F.kp, F.bindsN hb, .nil⟩
  · obtain ⟨_, _, _, _, _, h, _⟩ := h
    exact h.elim
  · obtain ⟨_, _, _, _, _, h, _⟩ := h
    exact h.elim
end Sp

set_option Elab.async false
set_option linter.all false
set_option maxRecDepth 100000
set_option maxHeartbeats 2000000
namespace Sp
open PySem PySem.Spec PyProof.Rows L2
open PySem.W (Datum DatumOrd Tup)
section
variable {K : PySem.W.Frag} {F F' : Hp} {σ : L2.St} {ta tb te : TE} {tt tu : TT} {t u tw : TS} {α β γ δ : Type} [DecidableEq α] [Datum α] [DecidableEq β] [Datum β] [DecidableEq γ] [Datum γ] [DecidableEq δ] [Datum δ]
theorem er_while {d : PyData} (Pv : Nat → Hp → L2.St → Prop) (mono : ∀ i F1 F2 σ, Same F1 F2 → Pv i F1 σ → Pv i F2 σ) (h0 : ∃ m, Pv m F σ)
    (step : ∀ m F' σ', Same F F' → Pv m F' σ' → ∃ b, EvT F' tt σ' b ∧ (b = true → EvN F' tw σ' fun F'' σ'' => ∃ m', m' < m ∧ Pv m' F'' σ'') ∧ (b = false → EvR K F' u σ' d)) : EvR K F (tSeq (tWhile tt tw) u) σ d := fun c H a ok D q => by
  obtain ⟨m0, h0⟩ := h0
  refine ⟨fun m σ' H2 => Same H H2 ∧ Pv m (hid c H2) σ', ⟨m0, Same.refl _, mono _ _ _ _ a h0⟩, ?_⟩
  rintro m σ' H2 ⟨s2, p⟩
  have ok2 := ok.mono s2
  obtain ⟨b, et, h1, h2⟩ := step m (hid c H2) σ' (a.trans s2.hid) p
  refine et c H2 (Same.refl _) ok2 _ fun H3 s3 => ?_
  cases b with
  | true =>
    refine ⟨fun σ'' H4 => Same H H4 ∧ ∃ m', m' < m ∧ Pv m' (hid c H4) σ'', fun σ'' H4 ⟨s4, m', hm, p'⟩ => ⟨m', hm, s4, p'⟩, ?_⟩
    exact (h1 rfl) c H3 s3.hid (ok2.mono s3) _ fun σ'' H4 s4 n => ⟨(s2.trans s3).trans s4, n⟩
  | false => exact (h2 rfl) c H3 s3.hid (ok2.mono s3) D fun w H4 s4 r4 => q w H4 ((s2.trans s3).trans s4) r4
/-- rows = [] and rows.append(e) for each item -/
abbrev tApp (K : PySem.W.Frag) (i : Nat) (te : TE) : TS := tDrop (tBM K "list" rAppend (tVar i) (tCons te tNil))
theorem er_appfor {wi : TI} {g : TG} {xs : List α} {f : α → β} {i : Nat} {d : PyData} (Sg : Addr → L2.St → Prop) (h0 : ∀ D, Sg D (σ.set i (some (.ref D))))
    (hi : ∀ D F', Same F F' → EvI K F' wi (σ.set i (some (.ref D))) xs)
    (step : ∀ D F' v x σ', Same F F' → x ∈ xs → Rp K F' v x → Sg D σ' → ∃ σ2, EvG F' g v σ' σ2 ∧ Sg D σ2 ∧ σ2[i]? = some (some (.ref D)) ∧ Ev K F' te σ2 (f x))
    (rest : ∀ D F' σ', Same F F' → Sg D σ' → Rp K F' (.ref D) (xs.map f) → EvR K F' u σ' d) :
    EvR K F (tSeq (tAsg (tLst tNil) (gName i)) (tSeq (tFor wi g (tApp K i te)) u)) σ d := fun c H a ok DD q => by
  refine ⟨Nat.zero_le _, fun D hD => ?_⟩
  have okc := okc_more (c := c) (D := D) (ok.mono (same_new (o := .lst []) hD)) (by rw [upd_same]; exact cel_lst)
  have f0 : Same F (hid (more c D) (upd H D (.lst []))) := a.trans (hid_more hD (same_new hD))
  refine hi D _ f0 (more c D) _ (Same.refl _) okc _ fun J H1 s1 j1 hz => ?_
  have s01 : Same H H1 := (same_new hD).trans s1
  have hD1 : H1 D = some (.lst []) := s1 _ _ (upd_same ..)
  have ok1 := okc.mono s1
  refine ⟨fun k m σ' H2 => m = xs.length - k ∧ k ≤ xs.length ∧ Same H H2 ∧ Same (hid (more c D) H1) (hid (more c D) H2) ∧ Sg D σ' ∧ ∃ acc, H2 D = some (.lst acc) ∧ Rps K (hid (more c D) H2) acc ((xs.take k).map f),
    ⟨xs.length, by simp, Nat.zero_le _, s01, Same.refl _, h0 D, [], hD1, by simpa using Rps.nil⟩, ?_⟩
  rintro k m σ' H2 ⟨rfl, hk, s2, f2, hs, acc, hacc, racc⟩
  have ok2 : Okc (more c D) H2 := okc_more (ok.mono s2) (by rw [hacc]; exact cel_lst)
  obtain ⟨jg, js, jy⟩ := j1 (more c D) H2 f2 ok2
  by_cases hlt : k < xs.length
  · have hx : xs[k]? = some xs[k] := List.getElem?_eq_getElem hlt
    refine .inr ⟨jg k hlt, fun σ3 H3 => Same H H3 ∧ Same (hid (more c D) H1) (hid (more c D) H3) ∧ Sg D σ3 ∧ ∃ acc, H3 D = some (.lst acc) ∧ Rps K (hid (more c D) H3) acc ((xs.take (k + 1)).map f), fun σ3 H3 h => ⟨xs.length - (k + 1), by omega, rfl, by omega, h⟩, fun v H3 y => ?_⟩
    obtain ⟨s3, r3⟩ := jy k v H3 _ hx y
    have ok3 := ok2.mono s3
    have hD3 : H3 D = some (.lst acc) := s3 _ _ hacc
    obtain ⟨σ2, eg, hs2, hi2, ee⟩ := step D (hid (more c D) H3) v xs[k] σ' ((f0.trans s1.hid).trans (f2.trans s3.hid)) (List.getElem_mem hlt) r3 hs
    refine eg _ H3 (Same.refl _) ok3 _ ⟨.ref D, hi2, .inl ⟨rfl, acc, .inl (.inl hD3)⟩, ?_⟩
    refine ee _ H3 (Same.refl _) ok3 _ fun w H4 s4 r4 => ⟨D, acc, w, rfl, rfl, s4 _ _ hD3, ?_, same_upd hD ((s2.trans s3).trans s4), ((f2.trans s3.hid).trans s4.hid).trans (hid_upd more_self), hs2, _, upd_same .., ?_⟩
    · rw [racc.length, List.length_map, List.length_take]
      omega
    · have et : xs.take (k + 1) = xs.take k ++ [xs[k]] := by rw [List.take_add_one, hx]; rfl
      rw [et, List.map_append]
      exact (((racc.mono s3.hid).mono s4.hid).mono (hid_upd more_self)).append (.cons (r4.mono (hid_upd more_self)) .nil)
  · have e : k = xs.length := by omega
    subst e
    rw [List.take_length] at racc
    have hc : c D = false := ok.new hD
    have r : Rp K (hid c H2) (.ref D) (xs.map f) := rp_mkL (.inl (by rw [hid_at hc]; exact hacc)) (racc.mono hid_less)
    exact .inl ⟨js, rest D (hid c H2) σ' (a.trans s2.hid) hs r c H2 (Same.refl _) (ok.mono s2) DD fun w H3 s3 r3 => q w H3 (s2.trans s3) r3⟩
end
end Sp

set_option Elab.async false
set_option linter.all false
set_option maxRecDepth 100000
set_option maxHeartbeats 4000000
namespace Sp
open PySem PySem.Spec PyProof.Rows L2
open PySem.W (Datum DatumOrd Tup)

def top (i : Nat) : Stmt := PySem.Challenge.pw_splitprices_k87_across_barred_supplies.main.body.getD i (.Pass ⟨0, 0, 0, 0⟩)
structure Bn (mg : Str → Option Value) : Prop where
  abs : mg "abs" = none
  all : mg "all" = none
  bool : mg "bool" = none
  enumerate : mg "enumerate" = none
  int : mg "int" = none
  isinstance : mg "isinstance" = none
  len : mg "len" = none
  list : mg "list" = none
  min : mg "min" = none
  range : mg "range" = none
  set : mg "set" = none
  sorted : mg "sorted" = none
  str : mg "str" = none
  sum : mg "sum" = none
  tuple : mg "tuple" = none
  zip : mg "zip" = none
  LONGEST : ∃ u, mg "LONGEST" = some u ∧ RelV (.int 40) u
  MOST_HOUSES : ∃ u, mg "MOST_HOUSES" = some u ∧ RelV (.int 4) u
  DEALT_PLANS : ∃ u, mg "DEALT_PLANS" = some u ∧ RelV (.int 24) u
  DEALT_PLACES : ∃ u, mg "DEALT_PLACES" = some u ∧ RelV (.int 5) u

abbrev Row := Tup Int
abbrev Lot := Tup (Tup Int)
abbrev Hs := Tup (Tup (Tup Int))
abbrev Spl := Int × Tup (Tup Int)
def isNum (d : PyData) : Bool := d.isInt && !d.isBool
def isLong : PyData → Int → Bool
  | .tuple xs, n => decide ((xs.length : Int) = n)
  | _, _ => false
def gcdL (xs : List Int) : Int := xs.foldl (fun a b => ((Nat.gcd a.natAbs b.natAbs : Nat) : Int)) 0
def gz (a b : Int) : Int := ((Nat.gcd a.natAbs b.natAbs : Nat) : Int)
def frac (t b : Int) : Int × Int := (t.fdiv (gz t b), b.fdiv (gz t b))
def dot (a b : Row) : Int := ((a.items.zip b.items).map fun p => p.1 * p.2).sum
def mostV (l : Lot) (r : Row) : Int := lmax (l.items.map fun p => dot p r)
def bestV (l : Lot) (r : Row) : Lot := Tup.mk (l.items.filter fun p => decide (dot p r = mostV l r))
def Bits (p : Row) : Prop := ∀ x ∈ p.items, x = 0 ∨ x = 1
structure GPlan (n : Nat) (p : Row) : Prop where
  len : p.items.length = n
  bits : Bits p
structure GLot (n : Nat) (l : Lot) : Prop where
  ne : l.items ≠ []
  plans : ∀ p ∈ l.items, GPlan n p
  asc : l.items.Pairwise tlt
  small : l.items.length ≤ 1000
structure GHs (n : Nat) (hs : Hs) : Prop where
  len : 1 ≤ hs.items.length ∧ hs.items.length ≤ 4
  lots : ∀ l ∈ hs.items, GLot n l
  n1 : 1 ≤ n ∧ n ≤ 40
theorem gz_ok {t b : Int} (h : 0 < b) (h2 : b < 2 ^ 30) : CDivN t (gz t b) ∧ CDivN b (gz t b) := by
  have hb : 0 < b.natAbs := by omega
  have h0 : 0 < Nat.gcd t.natAbs b.natAbs := Nat.gcd_pos_of_pos_right _ hb
  have h1 : Nat.gcd t.natAbs b.natAbs ≤ b.natAbs := Nat.gcd_le_right _ hb
  have e : (gz t b).natAbs = Nat.gcd t.natAbs b.natAbs := by unfold gz; simp
  have e2 : gz t b ≠ 0 := by
    unfold gz
    omega
  exact ⟨⟨e2, by rw [e]; omega⟩, ⟨e2, by rw [e]; omega⟩⟩
def R_is_number : List PyData → PyData → Prop := fun ds r => ∃ d, ds = [d] ∧ r = .bool (isNum d)
theorem R_is_number_mk {d : PyData} : R_is_number [d] (Datum.toD (isNum d)) := ⟨d, rfl, rfl⟩
def R_is_long : List PyData → PyData → Prop := fun ds r => ∃ d n, ds = [d, .int n] ∧ r = .bool (isLong d n)
theorem R_is_long_mk {d : PyData} {n : Int} : R_is_long [d, Datum.toD n] (Datum.toD (isLong d n)) := ⟨d, n, rfl, rfl⟩
abbrev R_is_from := R2' (fun (_ _ : Int) => True) (fun x l => decide (l ≤ x))
abbrev R_is_within := R3' (fun (_ _ _ : Int) => True) (fun x a b => decide (a ≤ x) && decide (x ≤ b))
abbrev R_ascends := R1 (fun l : Lot => l.items.Pairwise tlt ∧ l.items.length ≤ 1000) (fun _ => true)
abbrev R_are_numbers := R1 (fun _ : Row => True) (fun _ => true)
abbrev R_gcd_of := R1 (fun _ : List Int => True) gcdL
abbrev R_fraction := R2' (fun (_ b : Int) => 0 < b ∧ b < 2 ^ 30) frac
abbrev R_dotted := R2' (fun (a b : Row) => Bits a ∧ a.items.length = b.items.length) dot
abbrev R_is_plan := R1 (fun p : Row => (1 ≤ p.items.length ∧ p.items.length ≤ 40) ∧ Bits p) (fun _ => true)
abbrev R_is_row := R1 (fun l : Lot => l.items ≠ [] ∧ ∃ n, (1 ≤ n ∧ n ≤ 40) ∧ ∀ p ∈ l.items, GPlan n p) (fun _ => true)
abbrev R_is_lot := R1 (fun l : Lot => ∃ n, (1 ≤ n ∧ n ≤ 40) ∧ GLot n l) (fun _ => true)
abbrev R_is_prices_of := R2' (fun (p : Row) (n : Int) => (p.items.length : Int) = n) (fun _ _ => true)
mutual
/-- lists made tuples, all the way down -/
def tupD : PyData → PyData
  | .list xs => .tuple (tupDA xs)
  | .tuple xs => .tuple (tupDA xs)
  | d => d
def tupDA : List PyData → List PyData
  | [] => []
  | d :: ds => tupD d :: tupDA ds
end
theorem tupDA_map : ∀ xs : List PyData, tupDA xs = xs.map tupD
  | [] => by rw [tupDA]; rfl
  | d :: ds => by rw [tupDA, tupDA_map ds]; rfl
mutual
def dpt : PyData → Nat
  | .list xs => dptA xs + 1
  | .tuple xs => dptA xs + 1
  | _ => 0
def dptA : List PyData → Nat
  | [] => 0
  | d :: ds => max (dpt d) (dptA ds)
end
theorem dptA_le : ∀ {xs : List PyData} {d : PyData}, d ∈ xs → dpt d ≤ dptA xs
  | x :: xs, d, h => by
    rw [dptA]
    rcases List.mem_cons.mp h with rfl | h
    · exact Nat.le_max_left _ _
    · exact Nat.le_trans (dptA_le h) (Nat.le_max_right _ _)
theorem dptA_of {k : Nat} : ∀ {xs : List PyData}, (∀ d ∈ xs, dpt d ≤ k) → dptA xs ≤ k
  | [], _ => by rw [dptA]; exact Nat.zero_le _
  | x :: xs, h => by
    rw [dptA]
    exact Nat.max_le.mpr ⟨h x (by simp), dptA_of fun d hd => h d (by simp [hd])⟩
def R_tupled (k : Nat) : List PyData → PyData → Prop := fun ds r => ∃ d, ds = [d] ∧ dpt d ≤ k ∧ r = tupD d
theorem R_tupled_mk {α : Type} [DecidableEq α] [Datum α] {d : PyData} {x : α} (h : dpt d ≤ 4) (e : tupD d = Datum.toD x) : R_tupled 4 [d] (Datum.toD x) := ⟨d, rfl, h, e.symm⟩
def R_sure_prices : List PyData → PyData → Prop := fun ds r => ∃ d n, ds = [d, .int n] ∧ ∃ p : Row, dpt d ≤ 4 ∧ tupD d = Datum.toD p ∧ (p.items.length : Int) = n ∧ r = Datum.toD p
def R_sure_houses : List PyData → PyData → Prop := fun ds r => ∃ d, ds = [d] ∧ ∃ (hs : Hs) (n : Nat), dpt d ≤ 4 ∧ tupD d = Datum.toD hs ∧ GHs n hs ∧ r = Datum.toD hs
abbrev R_most_by := R2' (fun (l : Lot) (r : Row) => l.items ≠ [] ∧ ∀ p ∈ l.items, Bits p ∧ p.items.length = r.items.length) mostV
abbrev R_best_by := R2' (fun (l : Lot) (r : Row) => l.items ≠ [] ∧ ∀ p ∈ l.items, Bits p ∧ p.items.length = r.items.length) bestV
abbrev R_is_houses_of := R1 (fun hs : Hs => ∃ n, GHs n hs) (fun _ => true)

section
variable {P : Program} {w : World} {K : PySem.W.Frag} {mg : Str → Option Value} {base : Heap}
theorem scis_number : FnScope ["thing"] ["thing"] (defScope (top 4)) := ⟨rfl, rfl, rfl, by decide +kernel, rfl, by decide +kernel, by decide +kernel⟩
theorem c_is_number (B : Bn mg) (D : DefIn K mg "is_number" (top 4)) : C8.Cal P w K mg base 1 "is_number" (SpG K R_is_number) [] := by
  refine cal_pure (R := R_is_number) D scis_number (fun _ _ _ _ _ _ us hl => match us, hl with | [_], _ => rfl) (by
    rintro ds r ⟨_, rfl, _⟩; rfl) fun f cdv A outer s H E hr => ⟨_, (pss_one (ps_ret (pe_and (pe_callB (cr_isaX : CallR _ _ (rIsaX K)) (by rfl) B.isinstance PyProof.Rows.boot_isinstance (pa_cons (pv 0) (pa_cons (pe_bltn (v := .ty "int") (by rfl) B.int PyProof.Rows.boot_int rfl) pa_nil))) (pe_one (pe_not (pe_callB (cr_isaX : CallR _ _ (rIsaX K)) (by rfl) B.isinstance PyProof.Rows.boot_isinstance (pa_cons (pv 0) (pa_cons (pe_bltn (v := .ty "bool") (by rfl) B.bool PyProof.Rows.boot_bool rfl) pa_nil)))))))), ?_⟩
  rintro F vs ds r ⟨d, rfl, rfl⟩ hv
  obtain ⟨v_thing, rfl, r_thing⟩ := dq1 hv
  refine (er_retE (ev_and (ev_isInt (evd_var (i := 0) rfl r_thing)) fun h1 => (ev_not (ev_isBool (evd_var (i := 0) rfl r_thing)))) ?_)
  -- return isinstance(thing, int) and (not isinstance(thing, bool))
  rfl

theorem scis_within : FnScope ["thing", "least", "most"] ["thing", "least", "most"] (defScope (top 5)) := ⟨rfl, rfl, rfl, by decide +kernel, rfl, by decide +kernel, by decide +kernel⟩
theorem c_is_within (B : Bn mg) (D : DefIn K mg "is_within" (top 5)) (c_is_number : C8.Cal P w K mg base 1 "is_number" (SpG K R_is_number) []) : C8.Cal P w K mg base 2 "is_within" (SpG K R_is_within) [] := by
  refine cal_pure (R := R_is_within) D scis_within (fun _ _ _ _ _ _ us hl => match us, hl with | [_, _, _], _ => rfl) (by
    rintro ds r ⟨_, _, _, rfl, _⟩; rfl) fun f cdv A outer s H E hr => ⟨_, (pss_one (ps_ret (pe_and (C8.pe_c c_is_number hr (by decide) (by rfl) (pa_cons (pv 0) pa_nil)) (pe_one (pe_chain op_le op_le (pv 1) (pv 0) (pv 2)))))), ?_⟩
  rintro F vs ds r ⟨thing, least, most, rfl, hp, rfl⟩ hv
  obtain ⟨v_thing, v_least, v_most, rfl, r_thing, r_least, r_most⟩ := dq3 hv
  replace r_thing : Rp K F v_thing thing := r_thing
  replace r_least : Rp K F v_least least := r_least
  replace r_most : Rp K F v_most most := r_most
  refine (er_retE (ev_and (ev_call (ea_cons (ev_var (i := 0) rfl r_thing) ea_nil) R_is_number_mk) fun h1 => (ev_chain (ev_var (i := 1) rfl r_least) (ev_var (i := 0) rfl r_thing) (ev_var (i := 2) rfl r_most))) ?_)
  -- return is_number(thing) and least <= thing <= most
  rfl

theorem scis_long : FnScope ["thing", "length"] ["thing", "length"] (defScope (top 6)) := ⟨rfl, rfl, rfl, by decide +kernel, rfl, by decide +kernel, by decide +kernel⟩
theorem c_is_long (B : Bn mg) (D : DefIn K mg "is_long" (top 6)) : C8.Cal P w K mg base 1 "is_long" (SpG K R_is_long) [] := by
  refine cal_pure (R := R_is_long) D scis_long (fun _ _ _ _ _ _ us hl => match us, hl with | [_, _], _ => rfl) (by
    rintro ds r ⟨_, _, rfl, _⟩; rfl) fun f cdv A outer s H E hr => ⟨_, (pss_one (ps_ret (pe_and (pe_callB (cr_isaX : CallR _ _ (rIsaX K)) (by rfl) B.isinstance PyProof.Rows.boot_isinstance (pa_cons (pv 0) (pa_cons (pe_bltn (v := .ty "tuple") (by rfl) B.tuple PyProof.Rows.boot_tuple rfl) pa_nil))) (pe_one (pe_cmpR (op_eqX hr.units : OpR _ _ (rEqX K)) (pe_callB (cr_lenX : CallR _ _ (rLenX K)) (by rfl) B.len PySem.boot_len (pa_cons (pv 0) pa_nil)) (pv 1) (nomark _)))))), ?_⟩
  rintro F vs ds r ⟨d, n, rfl, rfl⟩ hv
  obtain ⟨v_thing, v_length, rfl, r_thing, r_length⟩ := dq2 hv
  replace r_length : Rp K F v_length n := r_length
  replace r_length : Rp K F v_length n := r_length
  refine er_retE (x := isLong d n) ?_ rfl
  cases d with
  | tuple xs => exact Ev.cast (ev_and (ev_isTuple (evd_var rfl r_thing)) fun _ => ev_eq (ev_lenDT (evd_var rfl r_thing)) (ev_var rfl r_length)) rfl
  | _ => exact Ev.cast (ev_and (d := false) (ev_isTuple (evd_var rfl r_thing)) fun h => absurd (show false = true from h) Bool.false_ne_true) rfl

theorem scare_numbers : FnScope ["thing", "own"] ["thing"] (defScope (top 10)) := ⟨rfl, rfl, rfl, by decide +kernel, rfl, by decide +kernel, by decide +kernel⟩
theorem c_are_numbers (B : Bn mg) (D : DefIn K mg "are_numbers" (top 10)) (c_is_number : C8.Cal P w K mg base 1 "is_number" (SpG K R_is_number) []) : C8.Cal P w K mg base 2 "are_numbers" (SpG K R_are_numbers) [] := by
  refine cal_pure (R := R_are_numbers) D scare_numbers (fun _ _ _ _ _ _ us hl => match us, hl with | [_], _ => rfl) (by
    rintro ds r ⟨_, rfl, _⟩; rfl) fun f cdv A outer s H E hr => ⟨_, (pss_one (ps_ret (pe_and (pe_callB (cr_isaX : CallR _ _ (rIsaX K)) (by rfl) B.isinstance PyProof.Rows.boot_isinstance (pa_cons (pv 0) (pa_cons (pe_bltn (v := .ty "tuple") (by rfl) B.tuple PyProof.Rows.boot_tuple rfl) pa_nil))) (pe_one (pe_callB (cr_all rfl : CallR _ _ (rAll K)) (by rfl) B.all PyProof.Rows.boot_all (pa_cons (pe_lc rfl scare_numbers.nd (pi_seqX (pv 0) : PI _ _ _ (iSeqX K _)) (blkOk_by (own := [("own", 1)]) (by kernel_rfl)) (fun _ _ _ _ _ => (pg_name (i := 1) scare_numbers.nd rfl (by first | exact Or.inl rfl | exact Or.inr rfl))) (fun _ _ _ _ _ => pts_nil) (fun _ _ _ _ _ => (C8.pe_c c_is_number hr (by decide) (by rfl) (pa_cons (pv 1) pa_nil)))) pa_nil)))))), ?_⟩
  rintro F vs ds r ⟨thing, rfl, hp, rfl⟩ hv
  obtain ⟨v_thing, rfl, r_thing⟩ := dq1 hv
  replace r_thing : Rp K F v_thing thing := r_thing
  refine (er_retE (ev_and (ev_isTuple ((ev_var (i := 0) rfl r_thing)).d) fun h1 => (ev_all (ev_lc1 (ei_tup (ev_var (i := 0) rfl r_thing)) (fun F1 v1 x1 s1 hx1 r1 => lcb_name ⟨rfl, (ev_call (ea_cons (ev_var (i := 1) rfl r1) ea_nil) R_is_number_mk)⟩)))) ?_)
  -- return isinstance(thing, tuple) and all([is_number(own) for own in thing])
  show PyData.bool _ = PyData.bool true
  congr 1
  simp only [Datum.toD, PyData.isTuple, Bool.true_and, List.all_map, List.all_eq_true]
  intro x _
  rfl

abbrev R_ascendsI := R1 (fun r : Row => r.items.Pairwise (· < ·) ∧ r.items.length ≤ 1000) (fun _ => true)
def R_ascends2 : List PyData → PyData → Prop := fun ds r => R_ascends ds r ∨ R_ascendsI ds r
theorem scascends : FnScope ["row", "k"] ["row"] (defScope (top 8)) := ⟨rfl, rfl, rfl, by decide +kernel, rfl, by decide +kernel, by decide +kernel⟩
theorem c_ascends (B : Bn mg) (D : DefIn K mg "ascends" (top 8)) : C8.Cal P w K mg base 1 "ascends" (SpG K R_ascends2) [] := by
  refine cal_pure (R := R_ascends2) D scascends (fun _ _ _ _ _ _ us hl => match us, hl with | [_], _ => rfl) (by
    rintro ds r (⟨_, rfl, _⟩ | ⟨_, rfl, _⟩) <;> rfl) fun f cdv A outer s H E hr => ⟨_, (pss_one (ps_ret (pe_callB (cr_all rfl : CallR _ _ (rAll K)) (by rfl) B.all PyProof.Rows.boot_all (pa_cons (pe_lc rfl scascends.nd (pi_range1 (by rfl) B.range (pa_cons (pe_op op_sub (pe_callB (cr_lenX : CallR _ _ (rLenX K)) (by rfl) B.len PySem.boot_len (pa_cons (pv 0) pa_nil)) pe_int) pa_nil)) (blkOk_by (own := [("k", 1)]) (by kernel_rfl)) (fun _ _ _ _ _ => (pg_name (i := 1) scascends.nd rfl (by first | exact Or.inl rfl | exact Or.inr rfl))) (fun _ _ _ _ _ => pts_nil) (fun _ _ _ _ _ => (pe_cmpR (op_ltX hr.units : OpR _ _ (rLtX K)) (pe_ix (ix_seq : IxR _ (rIx K)) (pv 0) (pv 1) (fun _ _ => rfl)) (pe_ix (ix_seq : IxR _ (rIx K)) (pv 0) (pe_op op_add (pv 1) pe_int) (fun _ _ => rfl)) (nomark _)))) pa_nil)))), ?_⟩
  rintro F vs ds r h hv
  rcases h with ⟨row, rfl, hp, rfl⟩ | ⟨row, rfl, hp, rfl⟩
  · obtain ⟨v_row, rfl, r_row⟩ := dq1 hv
    replace r_row : Rp K F v_row row := r_row
    refine (er_retE (ev_all (ev_lc1 (ei_rng1 (ev_i0 (ev_lenT (ev_var (i := 0) rfl r_row)) ev_int) ?_ ?_) (fun F1 v1 x1 s1 hx1 r1 => lcb_name ⟨rfl, (ev_lt (ev_nthT (ev_var (i := 0) rfl (r_row.mono s1)) (ev_var (i := 1) rfl r1) ?_) (ev_nthT (ev_var (i := 0) rfl (r_row.mono s1)) (ev_i0 (ev_var (i := 1) rfl r1) ev_int) ?_))⟩))) ?_)
    · omega
    · omega
    · have := mem_rangeL hx1
      omega
    · have := mem_rangeL hx1
      omega
    · show PyData.bool _ = PyData.bool true
      congr 1
      simp only [List.all_map, List.all_eq_true]
      intro k hk
      have hk := mem_rangeL hk
      show PySem.W.listLt _ _ = true
      obtain ⟨i, rfl⟩ : ∃ i : Nat, k = (i : Int) := ⟨k.toNat, by omega⟩
      have h1 : i < row.items.length := by omega
      have h2 : i + 1 < row.items.length := by omega
      have e2 : ((i : Int) + 1) = ((i + 1 : Nat) : Int) := by omega
      rw [e2, nth_nat h1, nth_nat h2]
      exact List.pairwise_iff_getElem.mp hp.1 i (i + 1) h1 h2 (by omega)
  · obtain ⟨v_row, rfl, r_row⟩ := dq1 hv
    replace r_row : Rp K F v_row row := r_row
    refine (er_retE (ev_all (ev_lc1 (ei_rng1 (ev_i0 (ev_lenT (ev_var (i := 0) rfl r_row)) ev_int) ?_ ?_) (fun F1 v1 x1 s1 hx1 r1 => lcb_name ⟨rfl, (ev_lt (ev_nthT (ev_var (i := 0) rfl (r_row.mono s1)) (ev_var (i := 1) rfl r1) ?_) (ev_nthT (ev_var (i := 0) rfl (r_row.mono s1)) (ev_i0 (ev_var (i := 1) rfl r1) ev_int) ?_))⟩))) ?_)
    · omega
    · omega
    · have := mem_rangeL hx1
      omega
    · have := mem_rangeL hx1
      omega
    · show PyData.bool _ = PyData.bool true
      congr 1
      simp only [List.all_map, List.all_eq_true]
      intro k hk
      have hk := mem_rangeL hk
      show decide (nth row.items k < nth row.items (k + 1)) = true
      obtain ⟨i, rfl⟩ : ∃ i : Nat, k = (i : Int) := ⟨k.toNat, by omega⟩
      have h1 : i < row.items.length := by omega
      have h2 : i + 1 < row.items.length := by omega
      have e2 : ((i : Int) + 1) = ((i + 1 : Nat) : Int) := by omega
      rw [e2, nth_nat h1, nth_nat h2]
      exact decide_eq_true (List.pairwise_iff_getElem.mp hp.1 i (i + 1) h1 h2 (by omega))

theorem scis_plan : FnScope ["thing", "own"] ["thing"] (defScope (top 14)) := ⟨rfl, rfl, rfl, by decide +kernel, rfl, by decide +kernel, by decide +kernel⟩
theorem c_is_plan (B : Bn mg) (D : DefIn K mg "is_plan" (top 14)) (c_is_within : C8.Cal P w K mg base 2 "is_within" (SpG K R_is_within) []) : C8.Cal P w K mg base 3 "is_plan" (SpG K R_is_plan) [] := by
  refine cal_pure (R := R_is_plan) D scis_plan (fun _ _ _ _ _ _ us hl => match us, hl with | [_], _ => rfl) (by
    rintro ds r ⟨_, rfl, _⟩; rfl) fun f cdv A outer s H E hr => ⟨_, (pss_cons (ps_if (PW.pt (pw_or (pt_not (pt_val (pe_callB (cr_isaX : CallR _ _ (rIsaX K)) (by rfl) B.isinstance PyProof.Rows.boot_isinstance (pa_cons (pv 0) (pa_cons (pe_bltn (v := .ty "tuple") (by rfl) B.tuple PyProof.Rows.boot_tuple rfl) pa_nil))))) (pw_or1 (pt_not (pt_chain op_le op_le pe_int (pe_callB (cr_lenX : CallR _ _ (rLenX K)) (by rfl) B.len PySem.boot_len (pa_cons (pv 0) pa_nil)) (C8.pe_gc (by rfl) B.LONGEST)))))) (pss_one (ps_ret pe_bl)) pss_nil)
    (pss_one (ps_ret (pe_callB (cr_all rfl : CallR _ _ (rAll K)) (by rfl) B.all PyProof.Rows.boot_all (pa_cons (pe_lc rfl scis_plan.nd (pi_seqX (pv 0) : PI _ _ _ (iSeqX K _)) (blkOk_by (own := [("own", 1)]) (by kernel_rfl)) (fun _ _ _ _ _ => (pg_name (i := 1) scis_plan.nd rfl (by first | exact Or.inl rfl | exact Or.inr rfl))) (fun _ _ _ _ _ => pts_nil) (fun _ _ _ _ _ => (C8.pe_c c_is_within hr (by decide) (by rfl) (pa_cons (pv 1) (pa_cons pe_int (pa_cons pe_int pa_nil)))))) pa_nil))))), ?_⟩
  rintro F vs ds r ⟨thing, rfl, hp, rfl⟩ hv
  obtain ⟨v_thing, rfl, r_thing⟩ := dq1 hv
  replace r_thing : Rp K F v_thing thing := r_thing
  refine (er_if (et_or (et_not (et_val (ev_isTuple ((ev_var (i := 0) rfl r_thing)).d))) fun h1 => (et_not (et_test (ev_chain ev_int (ev_lenT (ev_var (i := 0) rfl r_thing)) ev_int)))) (fun h2 => (er_stop (er_retE ev_bool ?_))) (fun h2 => (er_next (er_retE (ev_all (ev_lc1 (ei_tup (ev_var (i := 0) rfl r_thing)) (fun F1 v1 x1 s1 hx1 r1 => lcb_name ⟨rfl, (ev_call (ea_cons (ev_var (i := 1) rfl r1) (ea_cons ev_int (ea_cons ev_int ea_nil))) (r3_mk True.intro))⟩))) ?_))))
  -- return False
  -- return all([is_within(own, 0, 1) for own in thing])
  · obtain ⟨⟨g2, g3⟩, g4⟩ := hp
    have e : (Datum.toD thing).isTuple = true := rfl
    rw [e, decide_eq_true (show (1 : Int) ≤ (thing.items.length : Int) by omega), decide_eq_true (show (thing.items.length : Int) ≤ 40 by omega)] at h2
    cases h2
  · show PyData.bool _ = PyData.bool true
    congr 1
    simp only [List.all_map, List.all_eq_true]
    intro x hx
    have := hp.2 x hx
    show (decide (0 ≤ x) && decide (x ≤ 1)) = true
    rw [decide_eq_true (by omega), decide_eq_true (by omega)]
    rfl

theorem sctupled : FnScope ["value", "own"] ["value"] (defScope (top 7)) := ⟨rfl, rfl, rfl, by decide +kernel, rfl, by decide +kernel, by decide +kernel⟩
theorem c_tupledk (B : Bn mg) (D : DefIn K mg "tupled" (top 7)) : ∀ k, C8.Cal P w K mg base (k + 2) "tupled" (SpG K (R_tupled k)) [] := by
  have step : ∀ (j : Nat) (R : List PyData → PyData → Prop) (c_tupled : C8.Cal P w K mg base (j + 1) "tupled" (SpG K R) []) (R' : List PyData → PyData → Prop), (∀ ds r, R' ds r → ∃ d, ds = [d] ∧ r = tupD d ∧ ∀ xs, (d = .list xs ∨ d = .tuple xs) → ∀ x ∈ xs, R [x] (tupD x)) →
      C8.Cal P w K mg base (j + 2) "tupled" (SpG K R') [] := fun j R c_tupled R' hR' => by
    refine cal_pure (k := j + 1) (R := R') D sctupled (fun _ _ _ _ _ _ us hl => match us, hl with | [_], _ => rfl) (fun ds r h => by obtain ⟨d, rfl, _⟩ := hR' ds r h; rfl) fun f cdv A outer s H E hr => ⟨_, (pss_one (ps_ret (pe_ifExp (pt_val (pe_callB (cr_isaT2 : CallR _ _ (rIsaT2 K)) (by rfl) B.isinstance PyProof.Rows.boot_isinstance (pa_cons (pv 0) (pa_cons (pe_tup (pa_cons (pe_bltn (v := .ty "list") (by rfl) B.list PyProof.Rows.boot_list rfl) (pa_cons (pe_bltn (v := .ty "tuple") (by rfl) B.tuple PyProof.Rows.boot_tuple rfl) pa_nil))) pa_nil)))) (pe_callTy (cr_tupleX : CallR _ _ (rTupleX K)) (by rfl) B.tuple PyProof.Rows.boot_tuple (pa_cons (pe_lc rfl sctupled.nd (pi_seqX (pv 0) : PI _ _ _ (iSeqX K _)) (blkOk_by (own := [("own", 1)]) (by kernel_rfl)) (fun _ _ _ _ _ => (pg_name (i := 1) sctupled.nd rfl (by first | exact Or.inl rfl | exact Or.inr rfl))) (fun _ _ _ _ _ => pts_nil) (fun _ _ _ _ _ => (C8.pe_c c_tupled hr (Nat.le_refl _) (by rfl) (pa_cons (pv 1) pa_nil)))) pa_nil)) (pv 0)))), ?_⟩
    intro F vs ds r h hv
    obtain ⟨d, rfl, rfl, hd⟩ := hR' ds r h
    obtain ⟨v, rfl, r_value⟩ := dq1 hv
    refine er_ret (EvD.cast (evd_if (x := tupD d) (y := tupD d) (et_val (ev_isLT (evd_var (i := 0) rfl r_value))) (fun h1 => ?_) (fun h1 => ?_)) (by split <;> rfl))
    · cases d with
      | list xs =>
        refine EvD.cast (evd_tup (ev_lcD (eid_list (evd_var (i := 0) rfl r_value)) (fun F1 v1 x1 s1 hx1 r1 => lcb_name ⟨rfl, evd_call (ea_consD (evd_var (i := 1) rfl r1) ea_nil) (hd xs (.inl rfl) x1 hx1)⟩))) (by rw [tupD, tupDA_map])
      | tuple xs =>
        refine EvD.cast (evd_tup (ev_lcD (eid_tup (evd_var (i := 0) rfl r_value)) (fun F1 v1 x1 s1 hx1 r1 => lcb_name ⟨rfl, evd_call (ea_consD (evd_var (i := 1) rfl r1) ea_nil) (hd xs (.inr rfl) x1 hx1)⟩))) (by rw [tupD, tupDA_map])
      | _ => cases h1
    · refine EvD.cast (evd_var (i := 0) rfl r_value) ?_
      cases d with
      | list xs => cases h1
      | tuple xs => cases h1
      | _ => rfl
  intro k
  induction k with
  | zero =>
    refine step 0 _ (cal_never (k := 0) D sctupled (fun _ _ _ _ _ _ us hl => match us, hl with | [_], _ => rfl)) _ fun ds r h => ?_
    obtain ⟨d, rfl, hd, rfl⟩ := h
    refine ⟨d, rfl, rfl, fun xs e x hx => ?_⟩
    rcases e with rfl | rfl <;> (rw [dpt] at hd; omega)
  | succ k ih =>
    refine step (k + 1) _ ih _ fun ds r h => ?_
    obtain ⟨d, rfl, hd, rfl⟩ := h
    refine ⟨d, rfl, rfl, fun xs e x hx => ⟨x, rfl, ?_, rfl⟩⟩
    have := dptA_le hx
    rcases e with rfl | rfl <;> (rw [dpt] at hd; omega)
theorem c_tupled (B : Bn mg) (D : DefIn K mg "tupled" (top 7)) : C8.Cal P w K mg base 6 "tupled" (SpG K (R_tupled 4)) [] := c_tupledk B D 4
theorem all_id {α : Type} {xs : List α} {f : α → Bool} (h : ∀ x ∈ xs, f x = true) : (xs.map f).all id = true := by
  rw [List.all_map, List.all_eq_true]
  exact h
theorem toB {b c : Bool} (h : b = c) : Datum.toD b = Datum.toD c := congrArg _ h
theorem GLot.len {n : Nat} {l : Lot} (h : GLot n l) {p : Row} (hp : p ∈ l.items) : p.items.length = n := (h.plans p hp).len
theorem GLot.pos {n : Nat} {l : Lot} (h : GLot n l) : 0 < l.items.length := List.length_pos_iff.mpr h.ne
theorem len0 {α : Type} {xs : List α} (h : xs ≠ []) : (0 : Int) ≤ 0 ∧ (0 : Int) < xs.length := ⟨Int.le_refl _, by have := List.length_pos_iff.mpr h; omega⟩
theorem mem_nth0 {α : Type} [Inhabited α] {xs : List α} (h : xs ≠ []) : nth xs 0 ∈ xs := nth_mem (len0 h)
theorem zip_map_filter {α β : Type} (f : α → β) (p : β → Bool) : ∀ xs : List α, ((xs.zip (xs.map f)).filter fun x => p x.2).map Prod.fst = xs.filter fun x => p (f x)
  | [] => rfl
  | x :: xs => by
    rw [List.map_cons, List.zip_cons_cons, List.filter_cons, List.filter_cons]
    by_cases h : p (f x) = true
    · rw [if_pos h, if_pos h, List.map_cons, zip_map_filter f p xs]
    · rw [if_neg h, if_neg h, zip_map_filter f p xs]
theorem slice1 {α : Type} (xs : List α) : cutL xs (some 1) none = xs.drop 1 := by
  unfold cutL
  rw [show HT.sIx xs.length 0 (some 1) = min 1 xs.length from HT.sIx_nat xs.length 0 1, HT.sIx_none]
  cases xs with
  | nil => rfl
  | cons x r =>
    rw [show min 1 (x :: r).length = 1 by
      rw [List.length_cons]
      omega]
    show (List.take ((x :: r).length - 1) r) = r
    rw [List.length_cons, Nat.add_sub_cancel]
    exact List.take_length
theorem scis_row : FnScope ["thing", "own"] ["thing"] (defScope (top 15)) := ⟨rfl, rfl, rfl, by decide +kernel, rfl, by decide +kernel, by decide +kernel⟩
theorem c_is_row (B : Bn mg) (D : DefIn K mg "is_row" (top 15)) (c_is_plan : C8.Cal P w K mg base 3 "is_plan" (SpG K R_is_plan) []) : C8.Cal P w K mg base 4 "is_row" (SpG K R_is_row) [] := by
  refine cal_pure (R := R_is_row) D scis_row (fun _ _ _ _ _ _ us hl => match us, hl with | [_], _ => rfl) (by
    rintro ds r ⟨_, rfl, _⟩; rfl) fun f cdv A outer s H E hr => ⟨_, (pss_cons (ps_if (PW.pt (pw_or (pt_not (pt_val (pe_callB (cr_isaX : CallR _ _ (rIsaX K)) (by rfl) B.isinstance PyProof.Rows.boot_isinstance (pa_cons (pv 0) (pa_cons (pe_bltn (v := .ty "tuple") (by rfl) B.tuple PyProof.Rows.boot_tuple rfl) pa_nil))))) (pw_or (pt_cmpR (op_eqX hr.units : OpR _ _ (rEqX K)) (pv 0) (pe_tup pa_nil) (nomark _)) (pw_or1 (pt_not (pt_val (pe_callB (cr_all rfl : CallR _ _ (rAll K)) (by rfl) B.all PyProof.Rows.boot_all (pa_cons (pe_lc rfl scis_row.nd (pi_seqX (pv 0) : PI _ _ _ (iSeqX K _)) (blkOk_by (own := [("own", 1)]) (by kernel_rfl)) (fun _ _ _ _ _ => (pg_name (i := 1) scis_row.nd rfl (by first | exact Or.inl rfl | exact Or.inr rfl))) (fun _ _ _ _ _ => pts_nil) (fun _ _ _ _ _ => (C8.pe_c c_is_plan hr (by decide) (by rfl) (pa_cons (pv 1) pa_nil)))) pa_nil)))))))) (pss_one (ps_ret pe_bl)) pss_nil)
    (pss_one (ps_ret (pe_callB (cr_all rfl : CallR _ _ (rAll K)) (by rfl) B.all PyProof.Rows.boot_all (pa_cons (pe_lc rfl scis_row.nd (pi_seqX (pv 0) : PI _ _ _ (iSeqX K _)) (blkOk_by (own := [("own", 1)]) (by kernel_rfl)) (fun _ _ _ _ _ => (pg_name (i := 1) scis_row.nd rfl (by first | exact Or.inl rfl | exact Or.inr rfl))) (fun _ _ _ _ _ => pts_nil) (fun _ _ _ _ _ => (pe_cmpR (op_eqX hr.units : OpR _ _ (rEqX K)) (pe_callB (cr_lenX : CallR _ _ (rLenX K)) (by rfl) B.len PySem.boot_len (pa_cons (pv 1) pa_nil)) (pe_callB (cr_lenX : CallR _ _ (rLenX K)) (by rfl) B.len PySem.boot_len (pa_cons (pe_ix (ix_seq : IxR _ (rIx K)) (pv 0) pe_int (fun _ _ => rfl)) pa_nil)) (nomark _)))) pa_nil))))), ?_⟩
  rintro F vs ds r ⟨thing, rfl, hp, rfl⟩ hv
  obtain ⟨v_thing, rfl, r_thing⟩ := dq1 hv
  replace r_thing : Rp K F v_thing thing := r_thing
  refine (er_if (et_or (et_not (et_val (ev_isTuple ((ev_var (i := 0) rfl r_thing)).d))) fun h2 => (et_or (et_test (ev_eq (ev_var (i := 0) rfl r_thing) (ev_dT es_nil))) fun h1 => (et_not (et_val (ev_all (ev_lc1 (ei_tup (ev_var (i := 0) rfl r_thing)) (fun F1 v1 x1 s1 hx1 r1 => lcb_name ⟨rfl, (ev_call (ea_cons (ev_var (i := 1) rfl r1) ea_nil) (r1_mk ?_))⟩))))))) (fun h3 => (er_stop (er_retE ev_bool ?_))) (fun h3 => (er_next (er_retE (ev_all (ev_lc1 (ei_tup (ev_var (i := 0) rfl r_thing)) (fun F1 v1 x1 s1 hx1 r1 => lcb_name ⟨rfl, (ev_eq (ev_lenT (ev_var (i := 1) rfl r1)) (ev_lenT (ev_nthT (ev_var (i := 0) rfl (r_thing.mono s1)) ev_int ?_)))⟩))) ?_))))
  -- pre of is_plan(own)
  -- return False
  -- index: thing[0]
  -- return all([len(own) == len(thing[0]) for own in thing])
  · obtain ⟨h0, n, hn, hg⟩ := hp
    have := hg x1 hx1
    exact ⟨by rw [this.len]; exact hn, this.bits⟩
  · rw [all_id fun _ _ => rfl, show (Datum.toD thing).isTuple = true from rfl, decide_eq_false (fun e => hp.1 (by rw [e]))] at h3
    cases h3
  · exact len0 hp.1
  · obtain ⟨h0, n, hn, hg⟩ := hp
    refine toB (all_id fun x hx => decide_eq_true ?_)
    rw [(hg x hx).len, (hg _ (mem_nth0 h0)).len]

theorem scis_lot : FnScope ["thing"] ["thing"] (defScope (top 16)) := ⟨rfl, rfl, rfl, by decide +kernel, rfl, by decide +kernel, by decide +kernel⟩
theorem c_is_lot (B : Bn mg) (D : DefIn K mg "is_lot" (top 16)) (c_ascends : C8.Cal P w K mg base 1 "ascends" (SpG K R_ascends2) []) (c_is_row : C8.Cal P w K mg base 4 "is_row" (SpG K R_is_row) []) : C8.Cal P w K mg base 5 "is_lot" (SpG K R_is_lot) [] := by
  refine cal_pure (R := R_is_lot) D scis_lot (fun _ _ _ _ _ _ us hl => match us, hl with | [_], _ => rfl) (by
    rintro ds r ⟨_, rfl, _⟩; rfl) fun f cdv A outer s H E hr => ⟨_, (pss_one (ps_ret (pe_and (C8.pe_c c_is_row hr (by decide) (by rfl) (pa_cons (pv 0) pa_nil)) (pe_one (C8.pe_c c_ascends hr (by decide) (by rfl) (pa_cons (pv 0) pa_nil)))))), ?_⟩
  rintro F vs ds r ⟨thing, rfl, hp, rfl⟩ hv
  obtain ⟨v_thing, rfl, r_thing⟩ := dq1 hv
  replace r_thing : Rp K F v_thing thing := r_thing
  refine (er_retE (ev_and (ev_call (ea_cons (ev_var (i := 0) rfl r_thing) ea_nil) (r1_mk ?_)) fun h1 => (ev_call (ea_cons (ev_var (i := 0) rfl r_thing) ea_nil) (.inl (r1_mk ?_)))) ?_)
  -- pre of ascends(thing)
  -- pre of is_row(thing)
  -- return is_row(thing) and ascends(thing)
  · obtain ⟨n, hn, hg⟩ := hp
    exact ⟨hg.ne, n, hn, hg.plans⟩
  · obtain ⟨n, hn, hg⟩ := hp
    exact ⟨hg.asc, hg.small⟩
  · rfl

theorem scis_houses_of : FnScope ["thing", "own"] ["thing"] (defScope (top 22)) := ⟨rfl, rfl, rfl, by decide +kernel, rfl, by decide +kernel, by decide +kernel⟩
theorem c_is_houses_of (B : Bn mg) (D : DefIn K mg "is_houses_of" (top 22)) (c_is_lot : C8.Cal P w K mg base 5 "is_lot" (SpG K R_is_lot) []) : C8.Cal P w K mg base 6 "is_houses_of" (SpG K R_is_houses_of) [] := by
  refine cal_pure (R := R_is_houses_of) D scis_houses_of (fun _ _ _ _ _ _ us hl => match us, hl with | [_], _ => rfl) (by
    rintro ds r ⟨_, rfl, _⟩; rfl) fun f cdv A outer s H E hr => ⟨_, (pss_cons (ps_if (PW.pt (pw_or (pt_not (pt_val (pe_callB (cr_isaX : CallR _ _ (rIsaX K)) (by rfl) B.isinstance PyProof.Rows.boot_isinstance (pa_cons (pv 0) (pa_cons (pe_bltn (v := .ty "tuple") (by rfl) B.tuple PyProof.Rows.boot_tuple rfl) pa_nil))))) (pw_or1 (pt_not (pt_chain op_le op_le pe_int (pe_callB (cr_lenX : CallR _ _ (rLenX K)) (by rfl) B.len PySem.boot_len (pa_cons (pv 0) pa_nil)) (C8.pe_gc (by rfl) B.MOST_HOUSES)))))) (pss_one (ps_ret pe_bl)) pss_nil)
    (pss_one (ps_ret (pe_and (pe_callB (cr_all rfl : CallR _ _ (rAll K)) (by rfl) B.all PyProof.Rows.boot_all (pa_cons (pe_lc rfl scis_houses_of.nd (pi_seqX (pv 0) : PI _ _ _ (iSeqX K _)) (blkOk_by (own := [("own", 1)]) (by kernel_rfl)) (fun _ _ _ _ _ => (pg_name (i := 1) scis_houses_of.nd rfl (by first | exact Or.inl rfl | exact Or.inr rfl))) (fun _ _ _ _ _ => pts_nil) (fun _ _ _ _ _ => (C8.pe_c c_is_lot hr (by decide) (by rfl) (pa_cons (pv 1) pa_nil)))) pa_nil)) (pe_one (pe_callB (cr_all rfl : CallR _ _ (rAll K)) (by rfl) B.all PyProof.Rows.boot_all (pa_cons (pe_lc rfl scis_houses_of.nd (pi_seqX (pv 0) : PI _ _ _ (iSeqX K _)) (blkOk_by (own := [("own", 1)]) (by kernel_rfl)) (fun _ _ _ _ _ => (pg_name (i := 1) scis_houses_of.nd rfl (by first | exact Or.inl rfl | exact Or.inr rfl))) (fun _ _ _ _ _ => pts_nil) (fun _ _ _ _ _ => (pe_cmpR (op_eqX hr.units : OpR _ _ (rEqX K)) (pe_callB (cr_lenX : CallR _ _ (rLenX K)) (by rfl) B.len PySem.boot_len (pa_cons (pe_ix (ix_seq : IxR _ (rIx K)) (pv 1) pe_int (fun _ _ => rfl)) pa_nil)) (pe_callB (cr_lenX : CallR _ _ (rLenX K)) (by rfl) B.len PySem.boot_len (pa_cons (pe_ix (ix_seq : IxR _ (rIx K)) (pe_ix (ix_seq : IxR _ (rIx K)) (pv 0) pe_int (fun _ _ => rfl)) pe_int (fun _ _ => rfl)) pa_nil)) (nomark _)))) pa_nil))))))), ?_⟩
  rintro F vs ds r ⟨thing, rfl, hp, rfl⟩ hv
  obtain ⟨v_thing, rfl, r_thing⟩ := dq1 hv
  replace r_thing : Rp K F v_thing thing := r_thing
  refine (er_if (et_or (et_not (et_val (ev_isTuple ((ev_var (i := 0) rfl r_thing)).d))) fun h1 => (et_not (et_test (ev_chain ev_int (ev_lenT (ev_var (i := 0) rfl r_thing)) ev_int)))) (fun h2 => (er_stop (er_retE ev_bool ?_))) (fun h2 => (er_next (er_retE (ev_and (ev_all (ev_lc1 (ei_tup (ev_var (i := 0) rfl r_thing)) (fun F1 v1 x1 s1 hx1 r1 => lcb_name ⟨rfl, (ev_call (ea_cons (ev_var (i := 1) rfl r1) ea_nil) (r1_mk ?_))⟩))) fun h3 => (ev_all (ev_lc1 (ei_tup (ev_var (i := 0) rfl r_thing)) (fun F1 v1 x1 s1 hx1 r1 => lcb_name ⟨rfl, (ev_eq (ev_lenT (ev_nthT (ev_var (i := 1) rfl r1) ev_int ?_)) (ev_lenT (ev_nthT (ev_nthT (ev_var (i := 0) rfl (r_thing.mono s1)) ev_int ?_) ev_int ?_)))⟩)))) ?_))))
  -- return False
  -- index: own[0]
  -- index: thing[0]
  -- index: thing[0][0]
  -- pre of is_lot(own)
  -- return all([is_lot(own) for own in thing]) and all([len(own[0]) == len(thing[0][0]) for own in thing])
  · obtain ⟨n, hg⟩ := hp
    rw [show (Datum.toD thing).isTuple = true from rfl, decide_eq_true (show (1 : Int) ≤ (thing.items.length : Int) by have := hg.len.1; omega), decide_eq_true (show (thing.items.length : Int) ≤ 4 by have := hg.len.2; omega)] at h2
    cases h2
  · obtain ⟨n, hg⟩ := hp
    exact ⟨n, hg.n1, hg.lots x1 hx1⟩
  · obtain ⟨n, hg⟩ := hp
    exact len0 (hg.lots x1 hx1).ne
  · obtain ⟨n, hg⟩ := hp
    exact len0 (List.length_pos_iff.mp hg.len.1)
  · obtain ⟨n, hg⟩ := hp
    exact len0 (hg.lots _ (mem_nth0 (List.length_pos_iff.mp hg.len.1))).ne
  · obtain ⟨n, hg⟩ := hp
    refine toB ?_
    rw [all_id fun _ _ => rfl, Bool.true_and]
    refine all_id fun x hx => decide_eq_true ?_
    have h0 := hg.lots _ (mem_nth0 (List.length_pos_iff.mp hg.len.1))
    rw [(hg.lots x hx).len (mem_nth0 (hg.lots x hx).ne), h0.len (mem_nth0 h0.ne)]

theorem scsure_houses : FnScope ["houses", "own"] ["houses"] (defScope (top 23)) := ⟨rfl, rfl, rfl, by decide +kernel, rfl, by decide +kernel, by decide +kernel⟩
theorem c_sure_houses (B : Bn mg) (D : DefIn K mg "sure_houses" (top 23)) (c_is_houses_of : C8.Cal P w K mg base 6 "is_houses_of" (SpG K R_is_houses_of) []) (c_tupled : C8.Cal P w K mg base 6 "tupled" (SpG K (R_tupled 4)) []) : C8.Cal P w K mg base 7 "sure_houses" (SpG K R_sure_houses) [] := by
  refine cal_pure (R := R_sure_houses) D scsure_houses (fun _ _ _ _ _ _ us hl => match us, hl with | [_], _ => rfl) (by
    rintro ds r ⟨_, rfl, _⟩; rfl) fun f cdv A outer s H E hr => ⟨_, (pss_cons (ps_set (i := 1) scsure_houses.nd rfl (by first | exact Or.inl rfl | exact Or.inr rfl) (C8.pe_c c_tupled hr (by decide) (by rfl) (pa_cons (pv 0) pa_nil)))
    (pss_cons (ps_if (pt_not (pt_val (C8.pe_c c_is_houses_of hr (by decide) (by rfl) (pa_cons (pv 1) pa_nil)))) (pss_one ps_never) pss_nil)
    (pss_one (ps_ret (pv 1))))), ?_⟩
  rintro F vs ds r ⟨d, rfl, hs, n, hd, hp, hn, rfl⟩ hv
  obtain ⟨v_houses, rfl, r_houses⟩ := dq1 hv
  refine (er_set (ev_call (ea_consD (evd_var (i := 0) rfl r_houses) ea_nil) (R_tupled_mk (x := hs) ?_ ?_)) fun F1 v1 s1 r1 => (er_if (et_not (et_val (ev_call (ea_cons (ev_var (i := 1) rfl r1) ea_nil) (r1_mk ?_)))) (fun h1 => (er_never ?_)) (fun h1 => (er_next (er_retE (ev_var (i := 1) rfl r1) ?_)))))
  -- pre of tupled(houses)
  -- pre of tupled(houses)
  -- pre of is_houses_of(own)
  -- never: raise
  -- return own
  · exact hd
  · exact hp
  · exact ⟨n, hn⟩
  · cases h1
  · rfl

def sharedV (hs : Hs) : Lot := Tup.mk ((nth hs.items 0).items.filter fun p => ((hs.items.drop 1).map fun l => decide (p ∈ l.items)).all id)
abbrev R_shared_by := R1 (fun hs : Hs => hs.items ≠ []) sharedV
theorem R_sure_houses_mk {d : PyData} {hs : Hs} {n : Nat} (h : dpt d ≤ 4) (e : tupD d = Datum.toD hs) (g : GHs n hs) : R_sure_houses [d] (Datum.toD hs) := ⟨d, rfl, hs, n, h, e, g, rfl⟩
theorem R_sure_prices_mk {d : PyData} {p : Row} {n : Int} (h : dpt d ≤ 4) (e : tupD d = Datum.toD p) (g : (p.items.length : Int) = n) : R_sure_prices [d, Datum.toD n] (Datum.toD p) := ⟨d, n, rfl, p, h, e, g, rfl⟩
def R_shared : List PyData → PyData → Prop := fun ds r => ∃ d, ds = [d] ∧ ∃ (hs : Hs) (n : Nat), dpt d ≤ 4 ∧ tupD d = Datum.toD hs ∧ GHs n hs ∧ r = Datum.toD (sharedV hs)
/-- a split of houses of n places -/
structure GSp (n : Nat) (hs : Hs) (sp : Spl) : Prop where
  pos : 1 ≤ sp.1
  small : sp.1 < 2 ^ 30
  len : sp.2.items.length = hs.items.length
  rows : ∀ r ∈ sp.2.items, r.items.length = n
def rowsL (sp : Spl) : List (Tup Int) := colsL (sp.2.items.map (·.items))
def Whole (sp : Spl) : Prop := ∀ t ∈ rowsL sp, t.items.sum % sp.1 = 0
def promV (hs : Hs) (sp : Spl) : Int × Int := frac ((hs.items.zip sp.2.items).map fun q => mostV q.1 q.2).sum sp.1
abbrev R_promise_of := R2' (fun (hs : Hs) (sp : Spl) => ∃ n, GHs n hs ∧ GSp n hs sp) promV
theorem GHs.ne {n : Nat} {hs : Hs} (h : GHs n hs) : hs.items ≠ [] := List.length_pos_iff.mp h.len.1
theorem GHs.len00 {n : Nat} {hs : Hs} (h : GHs n hs) : (nth (nth hs.items 0).items 0).items.length = n := (h.lots _ (mem_nth0 h.ne)).len (mem_nth0 (h.lots _ (mem_nth0 h.ne)).ne)
def splitV (prices : Row) (sp : Spl) : Bool := ((rowsL sp).zip prices.items).map (fun q => decide (q.1.items.sum = sp.1 * q.2)) |>.all id
def R_is_split_of : List PyData → PyData → Prop := fun ds r => ∃ (hs : Hs) (p : Row) (d : PyData) (n : Nat), ds = [Datum.toD hs, Datum.toD p, d] ∧ GHs n hs ∧ p.items.length = n ∧
  (((∃ xs, d = .list xs) ∧ r = .bool false) ∨ ∃ sp : Spl, d = Datum.toD sp ∧ ((¬ (1 ≤ sp.1 ∧ sp.2.items.length = hs.items.length) ∧ r = .bool false) ∨ (GSp n hs sp ∧ r = .bool (splitV p sp))))
def R_sure_split : List PyData → PyData → Prop := fun ds r => ∃ (hs : Hs) (d : PyData), ds = [Datum.toD hs, d] ∧ ∃ (sp : Spl) (n : Nat), GHs n hs ∧ dpt d ≤ 4 ∧ tupD d = Datum.toD sp ∧ GSp n hs sp ∧ Whole sp ∧ r = Datum.toD sp
theorem R_sure_split_mk {hs : Hs} {d : PyData} {sp : Spl} {n : Nat} (g : GHs n hs) (h : dpt d ≤ 4) (e : tupD d = Datum.toD sp) (gs : GSp n hs sp) (w : Whole sp) : R_sure_split [Datum.toD hs, d] (Datum.toD sp) := ⟨hs, d, rfl, sp, n, g, h, e, gs, w, rfl⟩
theorem cdiv {i j : Int} (h : 1 ≤ j) (h2 : j < 2 ^ 30) : CDivN i j := ⟨by omega, by omega⟩
theorem cmulL {i j : Int} (h : 0 ≤ i) (h2 : i < 2 ^ 30) : CMul i j := .inl ⟨by omega, by omega⟩
theorem isLong_pair {α β : Type} [DecidableEq α] [Datum α] [DecidableEq β] [Datum β] (x : α × β) : isLong (Datum.toD x) 2 = true := rfl
theorem isLong_tup {α : Type} [DecidableEq α] [Datum α] (x : Tup α) (n : Int) : isLong (Datum.toD x) n = decide ((x.items.length : Int) = n) := by
  show decide (((x.items.map Datum.toD).length : Int) = n) = _
  rw [List.length_map]
theorem GSp.neq {n : Nat} {hs : Hs} {sp : Spl} (g : GHs n hs) (h : GSp n hs sp) : sp.2.items ≠ [] := List.length_pos_iff.mp (by rw [h.len]; exact g.len.1)
def R_is_split : List PyData → PyData → Prop := fun ds r => ∃ (dh dp d : PyData) (hs : Hs) (p : Row) (n : Nat), ds = [dh, dp, d] ∧ (dpt dh ≤ 4 ∧ tupD dh = Datum.toD hs ∧ GHs n hs) ∧ (dpt dp ≤ 4 ∧ tupD dp = Datum.toD p ∧ p.items.length = n) ∧ R_is_split_of [Datum.toD hs, Datum.toD p, d] r
def R_promise : List PyData → PyData → Prop := fun ds r => ∃ (dh d : PyData) (hs : Hs) (sp : Spl) (n : Nat), ds = [dh, d] ∧ (dpt dh ≤ 4 ∧ tupD dh = Datum.toD hs ∧ GHs n hs) ∧ (dpt d ≤ 4 ∧ tupD d = Datum.toD sp ∧ GSp n hs sp ∧ Whole sp) ∧ r = Datum.toD (promV hs sp)
def wholeV (sp : Spl) : Row := Tup.mk ((rowsL sp).map fun t => t.items.sum.fdiv sp.1)
def R_split_whole : List PyData → PyData → Prop := fun ds r => ∃ (dh d : PyData) (hs : Hs) (sp : Spl) (n : Nat), ds = [dh, d] ∧ (dpt dh ≤ 4 ∧ tupD dh = Datum.toD hs ∧ GHs n hs) ∧ (dpt d ≤ 4 ∧ tupD d = Datum.toD sp ∧ GSp n hs sp ∧ Whole sp) ∧ r = Datum.toD (wholeV sp)
def bestsL (hs : Hs) (sp : Spl) : List Lot := (hs.items.zip sp.2.items).map fun q => bestV q.1 q.2
def contentV (hs : Hs) (sp : Spl) : Lot := Tup.mk ((sharedV hs).items.filter fun p => ((bestsL hs sp).map fun l => decide (p ∈ l.items)).all id)
def R_all_content : List PyData → PyData → Prop := fun ds r => ∃ (dh d : PyData) (hs : Hs) (sp : Spl) (n : Nat), ds = [dh, d] ∧ (dpt dh ≤ 4 ∧ tupD dh = Datum.toD hs ∧ GHs n hs) ∧ (dpt d ≤ 4 ∧ tupD d = Datum.toD sp ∧ GSp n hs sp ∧ Whole sp) ∧ r = Datum.toD (contentV hs sp)
def lowV (b : Int) (rows : List (List Int)) : Spl := let g := gcdL ([b] ++ rows.flatMap id); (b.fdiv g, Tup.mk (rows.map fun r => Tup.mk (r.map fun x => x.fdiv g)))
def timesL (k : Int) (sp : Spl) : List (List Int) := sp.2.items.map fun r => r.items.map fun x => k * x
def R_times_split : List PyData → PyData → Prop := fun ds r => ∃ (dh d : PyData) (k : Int) (hs : Hs) (sp : Spl) (n : Nat), ds = [dh, d, .int k] ∧ (dpt dh ≤ 4 ∧ tupD dh = Datum.toD hs ∧ GHs n hs) ∧ (dpt d ≤ 4 ∧ tupD d = Datum.toD sp ∧ GSp n hs sp ∧ Whole sp) ∧ (0 ≤ k ∧ k < 2 ^ 30) ∧ r = Datum.toD (lowV sp.1 (timesL k sp))
theorem gcdL_cons (a : Int) (xs : List Int) : gcdL (a :: xs) = xs.foldl gz (gz 0 a) := rfl
abbrev gfold (xs : List Int) : Int := xs.foldl gz 0
theorem gz_bd {a x : Int} (h : 1 ≤ a) : 1 ≤ gz a x ∧ gz a x ≤ a := by
  have hb : 0 < a.natAbs := by omega
  have h0 : 0 < Nat.gcd a.natAbs x.natAbs := Nat.gcd_pos_of_pos_left _ hb
  have h1 : Nat.gcd a.natAbs x.natAbs ≤ a.natAbs := Nat.gcd_le_left _ hb
  unfold gz
  omega
theorem gfold_bd : ∀ {xs : List Int} {a : Int}, 1 ≤ a → 1 ≤ xs.foldl gz a ∧ xs.foldl gz a ≤ a
  | [], a, h => ⟨h, Int.le_refl _⟩
  | x :: xs, a, h => by
    rw [List.foldl_cons]
    have h1 := gz_bd (x := x) h
    have h2 := gfold_bd (xs := xs) h1.1
    omega
theorem gcdL_bd {b : Int} {xs : List Int} (h : 1 ≤ b) : 1 ≤ gcdL ([b] ++ xs) ∧ gcdL ([b] ++ xs) ≤ b := by
  have e : gcdL ([b] ++ xs) = xs.foldl gz b := by
    show xs.foldl gz (gz 0 b) = _
    have : gz 0 b = b := by unfold gz; simp; omega
    rw [this]
  rw [e]
  exact gfold_bd h
theorem flat_len {m n : Nat} : ∀ {rows : List (List Int)}, (∀ r ∈ rows, r.length = n) → rows.length ≤ m → (rows.flatMap fun r => r.map fun x => x).length ≤ m * n
  | [], _, _ => by simp
  | r :: rows, h, hl => by
    obtain ⟨k, rfl⟩ : ∃ k, m = k + 1 := ⟨m - 1, by simp at hl; omega⟩
    rw [List.flatMap_cons, List.length_append, List.length_map, h r (by simp), Nat.succ_mul]
    have := flat_len (m := k) (n := n) (rows := rows) (fun q hq => h q (by simp [hq])) (by simpa using hl)
    omega
theorem flat_id (rows : List (List Int)) : (rows.flatMap fun r => r.map fun x => x) = rows.flatMap id := by
  congr 1
  funext r
  exact List.map_id' r
def addL (a b : Spl) : List (List Int) := (a.2.items.zip b.2.items).map fun q => (q.1.items.zip q.2.items).map fun z => b.1 * z.1 + a.1 * z.2
def addV (a b : Spl) : Spl := lowV (a.1 * b.1) (addL a b)
def R_added_split : List PyData → PyData → Prop := fun ds r => ∃ (dh d e : PyData) (hs : Hs) (sp sq : Spl) (n : Nat), ds = [dh, d, e] ∧ (dpt dh ≤ 4 ∧ tupD dh = Datum.toD hs ∧ GHs n hs) ∧ (dpt d ≤ 4 ∧ tupD d = Datum.toD sp ∧ GSp n hs sp ∧ Whole sp) ∧ (dpt e ≤ 4 ∧ tupD e = Datum.toD sq ∧ GSp n hs sq ∧ Whole sq) ∧ (sp.1 < 2 ^ 15 ∧ sq.1 < 2 ^ 15) ∧ r = Datum.toD (addV sp sq)
end
end Sp

set_option Elab.async false
set_option linter.all false
set_option maxRecDepth 100000
set_option maxHeartbeats 2000000
namespace Sp
open PySem PySem.Spec PyProof.Rows L2
open PySem.W (Datum DatumOrd Tup)
/-- the box: what is left to draw, the seed, how often drawn -/
structure BoxOk (x y z : Int) (k : Nat) : Prop where
  x0 : 0 ≤ x
  y0 : 0 ≤ y
  y1 : y < 2 ^ 62
  z0 : 0 ≤ z
  z1 : z + (k : Nat) ≤ 2 ^ 60
theorem BoxOk.mono {x y z : Int} {k j : Nat} (h : BoxOk x y z k) (hj : j ≤ k) : BoxOk x y z j := ⟨h.x0, h.y0, h.y1, h.z0, by have := h.z1; omega⟩
theorem box_start (a : Int) (b : Int := 7052067) (hb : 0 ≤ b ∧ b ≤ 8000000 := by decide) : BoxOk ((if a < 0 then -a else a) * (if decide (1000000000000000000 ≤ (if a < 0 then -a else a)) then 1 else 0)) (a.fmod 2305843009213693951 + 39373 * 0 + b) 0 1000000 := by
  have h1 := Int.emod_nonneg a (show (2305843009213693951 : Int) ≠ 0 by decide)
  have h2 := Int.emod_lt_of_pos a (show (0 : Int) < 2305843009213693951 by decide)
  rw [Int.fmod_eq_emod_of_nonneg _ (by decide)]
  refine ⟨Int.mul_nonneg (by split <;> omega) (by split <;> (first | decide | (split <;> decide))), by omega, by omega, by decide, by decide⟩
/-- the cell of the box in a heap -/
def BoxAt (H : Hp) (tin : Addr) (k : Nat) : Prop := ∃ x y z, H tin = some (.lst [.int x, .int y, .int z]) ∧ BoxOk x y z k
theorem BoxAt.mono {H : Hp} {tin : Addr} {k j : Nat} (h : BoxAt H tin k) (hj : j ≤ k) : BoxAt H tin j := by
  obtain ⟨x, y, z, e, b⟩ := h
  exact ⟨x, y, z, e, b.mono hj⟩
theorem BoxAt.same {H H' : Hp} {tin : Addr} {k : Nat} (s : Same H H') (h : BoxAt H tin k) : BoxAt H' tin k := by
  obtain ⟨x, y, z, e, b⟩ := h
  exact ⟨x, y, z, s _ _ e, b⟩
/-- all but the box stands -/
def Sx (tin : Addr) (H H' : Hp) : Prop := (∀ b o, b ≠ tin → H b = some o → H' b = some o) ∧ (∀ b, H b ≠ none → H' b ≠ none) ∧ ∀ b, Cel (H b) → Cel (H' b)
theorem Sx.refl {tin : Addr} {H : Hp} : Sx tin H H := ⟨fun _ _ _ e => e, fun _ h => h, fun _ h => h⟩
theorem Sx.trans {tin : Addr} {H H' H'' : Hp} (a : Sx tin H H') (b : Sx tin H' H'') : Sx tin H H'' := ⟨fun x o n e => b.1 x o n (a.1 x o n e), fun x h => b.2.1 x (a.2.1 x h), fun x h => b.2.2 x (a.2.2 x h)⟩
theorem Sx.of {tin : Addr} {H H' : Hp} (s : Same H H') : Sx tin H H' := ⟨fun x o _ e => s x o e, (fun x h e => by
  cases q : H x with
  | none => exact h q
  | some o => rw [s x o q] at e; cases e), fun x ⟨o, e, n⟩ => ⟨o, s x o e, n⟩⟩
theorem Sx.upd {tin : Addr} {H : Hp} {o : HO} (hn : ∀ xs, o ≠ .tup xs := by exact fun _ z => nomatch z) : Sx tin H (upd H tin o) := ⟨fun x u n e => by rw [upd_ne n]; exact e, (fun x h => by
  by_cases e : x = tin
  · rw [e, upd_same]; exact fun z => nomatch z
  · rw [upd_ne e]; exact h), (fun x h => by
  by_cases e : x = tin
  · rw [e, upd_same]; exact ⟨o, rfl, hn⟩
  · rw [upd_ne e]; exact h)⟩
theorem Sx.updN {tin D : Addr} {H H' : Hp} {o : HO} (s : Sx tin H H') (n : H D = none) : Sx tin H (L2.upd H' D o) := ⟨fun b x hb e => by
  rw [upd_ne (fun z => by rw [z, n] at e; cases e)]
  exact s.1 b x hb e, (fun b h => by
  rw [upd_ne (fun z => h (by rw [z, n]))]
  exact s.2.1 b h), fun b h => by
  rw [upd_ne (fun z => h.ne (by rw [z, n]))]
  exact s.2.2 b h⟩
theorem Sx.hid {c : Addr → Bool} {tin : Addr} {H H' : Hp} (ct : c tin = true) (s : Sx tin H H') : Same (hid c H) (hid c H') := fun b o e => by
  unfold Sp.hid at e ⊢
  split at e
  · cases e
  · rename_i h
    rw [if_neg h]
    exact s.1 b o (fun z => h (by rw [z]; exact ct)) e
theorem Sx.okc {c : Addr → Bool} {tin : Addr} {H H' : Hp} (s : Sx tin H H') (k : Okc c H) : Okc c H' := fun b hb => s.2.2 b (k b hb)
/-- a def that draws n times at most from the box, its first argument, and gives one of the values that R allows -/
def SpD (K : PySem.W.Frag) (n : Nat) (R : List PyData → PyData → Prop) : L2.Sp := fun vs H Q _ => ∃ (tin : Addr) (vs' : List V) (c : Addr → Bool) (ds : List PyData) (k : Nat), vs = .ref tin :: vs' ∧ c tin = true ∧ Okc c H ∧ BoxAt H tin (k + n) ∧ DqAll K (hid c H) vs' ds ∧ (∃ r, R ds r) ∧
  ∀ v H' r, R ds r → Sx tin H H' → BoxAt H' tin k → Dq K (hid c H') v r → Q v H'
/-- an expression that draws -/
def EvB (K : PySem.W.Frag) (F : Hp) (tin : Addr) (n : Nat) (t : TE) (σ : L2.St) (Pv : PyData → Prop) : Prop := ∀ c H k, Same F (hid c H) → Okc c H → c tin = true → BoxAt H tin (k + n) → ∀ Q : VK,
  (∀ v H' d, Pv d → Sx tin H H' → BoxAt H' tin k → Dq K (hid c H') v d → Q v H') → t σ H Q
theorem paired_append {α β : Type} {R : α → β → Prop} : ∀ {xs xs' : List α} {ys ys' : List β}, Paired R xs ys → Paired R xs' ys' → Paired R (xs ++ xs') (ys ++ ys')
  | _, _, _, _, .nil, h => h
  | _, _, _, _, .cons a b, h => .cons a (paired_append b h)
section
variable {K : PySem.W.Frag} {F F' : Hp} {tin : Addr} {σ : L2.St} {ta tb te : TE} {tt tu : TT} {t u tw : TS} {n m : Nat} {α β γ δ : Type} [DecidableEq α] [Datum α] [DecidableEq β] [Datum β] [DecidableEq γ] [Datum γ] [DecidableEq δ] [Datum δ]
theorem EvB.mono {Pv : PyData → Prop} (s : Same F F') (h : EvB K F tin n te σ Pv) : EvB K F' tin n te σ Pv := fun c H k a => h c H k (s.trans a)
theorem EvB.imp {Pv Pw : PyData → Prop} (h : EvB K F tin n te σ Pv) (i : ∀ d, Pv d → Pw d) : EvB K F tin n te σ Pw := fun c H k a ok ct b Q q => h c H k a ok ct b Q fun v H' d p => q v H' d (i d p)
theorem EvB.more {Pv : PyData → Prop} (h : EvB K F tin n te σ Pv) (hn : n ≤ m) : EvB K F tin m te σ Pv := fun c H k a ok ct b Q q => h c H (k + (m - n)) a ok ct (b.mono (by omega)) Q fun v H' d p s b' r => q v H' d p s (b'.mono (by omega)) r
theorem eb_pure {d : PyData} (h : EvD K F te σ d) : EvB K F tin n te σ (fun x => x = d) := fun c H k a ok ct b Q q => h c H a ok _ fun v H' s r => q v H' d rfl (.of s) ((b.same s).mono (by omega)) r
theorem eb_call {R : List PyData → PyData → Prop} {tr : TA} {ds : List PyData} {i : Nat} (hi : σ[i]? = some (some (.ref tin))) (ha : EvA K F tr σ ds) (h : ∃ r, R ds r) : EvB K F tin n (tCall (SpD K n R) [] E0 (tCons (tVar i) tr)) σ (R ds) := fun c H k a ok ct b Q q =>
  ⟨.ref tin, hi, ha c H a ok _ fun vs H1 s1 r1 => ⟨tin, vs, c, ds, k, by rw [List.append_nil], ct, ok.mono s1, b.same s1, r1, h, fun v H2 r hr s2 b2 r2 => q v H2 r hr ((Sx.of s1).trans s2) b2 r2⟩⟩
/-- an int drawn, with one that is not -/
theorem eb_i0l {g : Int → Int → Int} {j : Int} {Pv : Int → Prop} (ha : EvB K F tin n ta σ fun d => ∃ i, d = .int i ∧ Pv i) (hb : Ev K F tb σ j) : EvB K F tin n (tOp (rI0 fun i j => .int (g i j)) ta tb) σ (fun d => ∃ i, Pv i ∧ d = .int (g i j)) := fun c H k a ok ct b Q q =>
  ha c H k a ok ct b _ fun v H1 d ⟨i, e, p⟩ s1 b1 r1 => by
    subst e
    exact hb c H1 (a.trans (s1.hid ct)) (s1.okc ok) _ fun w H2 s2 r2 => ⟨i, j, rp_int r1, rp_int r2, q _ H2 _ ⟨i, p, rfl⟩ (s1.trans (.of s2)) (b1.same s2) (.int _)⟩
theorem eb_i0r {g : Int → Int → Int} {i : Int} {Pv : Int → Prop} (ha : Ev K F ta σ i) (hb : EvB K F tin n tb σ fun d => ∃ j, d = .int j ∧ Pv j) : EvB K F tin n (tOp (rI0 fun i j => .int (g i j)) ta tb) σ (fun d => ∃ j, Pv j ∧ d = .int (g i j)) := fun c H k a ok ct b Q q =>
  ha c H a ok _ fun v H1 s1 r1 => hb c H1 k (a.trans s1.hid) (ok.mono s1) ct (b.same s1) _ fun w H2 d ⟨j, e, p⟩ s2 b2 r2 => by
    subst e
    exact ⟨i, j, rp_int r1, rp_int r2, q _ H2 _ ⟨j, p, rfl⟩ ((Sx.of s1).trans s2) b2 (.int _)⟩
/-- blocks that draw and return -/
def EvRB (K : PySem.W.Frag) (F : Hp) (tin : Addr) (n : Nat) (t : TS) (σ : L2.St) (Pv : PyData → Prop) : Prop := ∀ c H k, Same F (hid c H) → Okc c H → c tin = true → BoxAt H tin (k + n) → ∀ D : Ends,
  (∀ v H' d, Pv d → Sx tin H H' → BoxAt H' tin k → Dq K (hid c H') v d → D.rt v H') → t D σ H
theorem EvRB.imp {Pv Pw : PyData → Prop} (h : EvRB K F tin n t σ Pv) (i : ∀ d, Pv d → Pw d) : EvRB K F tin n t σ Pw := fun c H k a ok ct b Q q => h c H k a ok ct b Q fun v H' d p => q v H' d (i d p)
theorem EvRB.more {Pv : PyData → Prop} (h : EvRB K F tin n t σ Pv) (hn : n ≤ m) : EvRB K F tin m t σ Pv := fun c H k a ok ct b Q q => h c H (k + (m - n)) a ok ct (b.mono (by omega)) Q fun v H' d p s b' r => q v H' d p s (b'.mono (by omega)) r
theorem erb_ret {Pv : PyData → Prop} (h : EvB K F tin n te σ Pv) : EvRB K F tin n (tRet te) σ Pv := fun c H k a ok ct b D q => h c H k a ok ct b _ q
theorem erb_pure {d : PyData} {Pv : PyData → Prop} (h : EvR K F t σ d) (p : Pv d) : EvRB K F tin n t σ Pv := fun c H k a ok ct b D q => h c H a ok D fun v H' s r => q v H' d p (.of s) ((b.same s).mono (by omega)) r
theorem erb_setB {Pv P : PyData → Prop} {i : Nat} (h : EvB K F tin n te σ Pv) (k : ∀ F' v d, Same F F' → Pv d → Dq K F' v d → EvRB K F' tin m u (σ.set i (some v)) P) : EvRB K F tin (m + n) (tSeq (tAsg te (gName i)) u) σ P := fun c H j a ok ct b D q =>
  h c H (j + m) a ok ct (b.mono (by omega)) _ fun v H1 d p s1 b1 r1 => k (hid c H1) v d (a.trans (s1.hid ct)) p r1 c H1 j (Same.refl _) (s1.okc ok) ct b1 D fun w H2 e pe s2 b2 r2 => q w H2 e pe (s1.trans s2) b2 r2
theorem erb_set {x : α} {P : PyData → Prop} {i : Nat} (h : Ev K F te σ x) (k : ∀ F' v, Same F F' → Rp K F' v x → EvRB K F' tin m u (σ.set i (some v)) P) : EvRB K F tin m (tSeq (tAsg te (gName i)) u) σ P := fun c H j a ok ct b D q =>
  h c H a ok _ fun v H1 s1 r1 => k (hid c H1) v (a.trans s1.hid) r1 c H1 j (Same.refl _) (ok.mono s1) ct (b.same s1) D fun w H2 e pe s2 b2 r2 => q w H2 e pe ((Sx.of s1).trans s2) b2 r2
/-- a, b = x, y: both may draw -/
theorem erb_par {Pa Pb P : PyData → Prop} {i j : Nat} {n1 n2 : Nat} (ha : EvB K F tin n1 ta σ Pa) (hb : ∀ F', Same F F' → EvB K F' tin n2 tb σ Pb) (k : ∀ F' v w d e, Same F F' → Pa d → Pb e → Dq K F' v d → Dq K F' w e → EvRB K F' tin m u ((σ.set i (some v)).set j (some w)) P) :
    EvRB K F tin (m + n2 + n1) (tSeq (tPar i j (tCons ta (tCons tb tNil))) u) σ P := fun c H z a ok ct b D q =>
  ha c H (z + m + n2) a ok ct (b.mono (by omega)) _ fun v H1 d p s1 b1 r1 => hb (hid c H1) (a.trans (s1.hid ct)) c H1 (z + m) (Same.refl _) (s1.okc ok) ct b1 _ fun w H2 e pe s2 b2 r2 =>
    ⟨v, w, rfl, k (hid c H2) v w d e ((a.trans (s1.hid ct)).trans (s2.hid ct)) p pe (dp_mono (s2.hid ct) _ _ r1) r2 c H2 z (Same.refl _) (s2.okc (s1.okc ok)) ct b2 D fun x H3 y py s3 b3 r3 => q x H3 y py ((s1.trans s2).trans s3) b3 r3⟩
theorem erb_asgT {P Pa Pb : PyData → Prop} {g : TG} {n1 n2 : Nat} {i j : Nat} (ha : EvB K F tin n1 ta σ Pa) (hb : ∀ F', Same F F' → EvB K F' tin n2 tb σ Pb) (k : ∀ F' v w d e, Same F F' → Pa d → Pb e → Dq K F' v d → Dq K F' w e → EvRB K F' tin m u ((σ.set i (some v)).set j (some w)) P) :
    EvRB K F tin (m + n2 + n1) (tSeq (tAsg (tTup (tCons ta (tCons tb tNil))) (gTup K 2 (gCons (gName i) (gCons (gName j) gNil)))) u) σ P := fun c H z a ok ct b D q =>
  ha c H (z + m + n2) a ok ct (b.mono (by omega)) _ fun v H1 d p s1 b1 r1 => hb (hid c H1) (a.trans (s1.hid ct)) c H1 (z + m) (Same.refl _) (s1.okc ok) ct b1 _ fun w H2 e pe s2 b2 r2 => by
    have ok2 := s2.okc (s1.okc ok)
    refine ⟨by show 2 ≤ sizeLine; decide, fun pp np => ⟨pp, [v, w], rfl, .inl (.inl (upd_same ..)), rfl, v, [w], rfl, w, [], rfl, rfl, ?_⟩⟩
    have s3 : Same H2 (upd H2 pp (.tup [v, w])) := same_new np
    have a3 := ((a.trans (s1.hid ct)).trans (s2.hid ct)).trans s3.hid
    exact k (hid c (upd H2 pp (.tup [v, w]))) v w d e a3 p pe (dp_mono ((s2.hid ct).trans s3.hid) _ _ r1) (dp_mono s3.hid _ _ r2) c _ z (Same.refl _) (ok2.mono s3) ct (b2.same s3) D fun x H3 y py s4 b4 r4 => q x H3 y py ((s1.trans s2).trans ((Sx.of s3).trans s4)) b4 r4
theorem erb_if {b : Bool} {s1 s2 : TS} {P : PyData → Prop} (h : EvT F tt σ b) (k1 : b = true → EvRB K F tin n (tSeq s1 u) σ P) (k2 : b = false → EvRB K F tin n (tSeq s2 u) σ P) : EvRB K F tin n (tSeq (tIfS tt s1 s2) u) σ P := fun c H j a ok ct bx D q =>
  h c H a ok _ fun H1 t1 => by
    cases b with
    | true => exact k1 rfl c H1 j (a.trans t1.hid) (ok.mono t1) ct (bx.same t1) D fun w H2 e pe t2 b2 r2 => q w H2 e pe ((Sx.of t1).trans t2) b2 r2
    | false => exact k2 rfl c H1 j (a.trans t1.hid) (ok.mono t1) ct (bx.same t1) D fun w H2 e pe t2 b2 r2 => q w H2 e pe ((Sx.of t1).trans t2) b2 r2
/-- [e for t in xs], e drawing -/
theorem eb_lc {wi : TI} {g : TG} {vs : List Nat} {xs : List α} {Pv : α → PyData → Prop} (hi : EvI K F wi σ xs)
    (body : ∀ (F' : Hp) (v : V) (x : α), Same F F' → x ∈ xs → Rp K F' v x → ∃ σ2, EvG F' g v (wipe σ vs) σ2 ∧ wipe σ2 vs = wipe σ vs ∧ EvB K F' tin n te σ2 (Pv x)) :
    EvB K F tin (n * xs.length) (tLc wi g tYes te vs) σ (fun d => ∃ ds, d = .list ds ∧ Paired Pv xs ds) := fun c H k0 a ok ct bx Q q =>
  hi c H a ok _ fun J H1 s1 j1 hz D hD => by
    have okH1 := ok.mono s1
    have bx1 := bx.same s1
    have hDt : tin ≠ D := fun e => by
      obtain ⟨_, _, _, h, _⟩ := bx1
      rw [e, hD] at h
      cases h
    have fz : ∀ H2, Sx tin H1 H2 → Same (hid c H1) (hid (more c D) H2) := fun H2 s => fun b o e => by
      have hb : b ≠ D := fun z => by
        unfold hid at e
        rw [z, hD] at e
        split at e <;> cases e
      have := s.hid ct b o e
      unfold hid at this ⊢
      unfold hid at e
      split at e
      · cases e
      · rename_i h
        rw [if_neg h] at this
        rw [if_neg (by simp [more, h, hb])]
        exact this
    have okD : ∀ H2, Sx tin H1 H2 → Cel (H2 D) → Okc (more c D) H2 := fun H2 s h => okc_more (s.okc okH1) h
    have ctD : more c D tin = true := by simp [more, ct]
    have sxu : ∀ {H2 : Hp} {o : HO}, Sx tin H1 H2 → Sx tin H1 (upd H2 D o) := fun {H2 o} s => ⟨fun b x hb e => by
      rw [upd_ne (fun z => by rw [z, hD] at e; cases e)]
      exact s.1 b x hb e, (fun b h => by
        by_cases z : b = D
        · rw [z, upd_same]; exact fun e => nomatch e
        · rw [upd_ne z]; exact s.2.1 b h), fun b h => by
        rw [upd_ne (fun z => h.ne (by rw [z, hD]))]
        exact s.2.2 b h⟩
    have bxu : ∀ {H2 : Hp} {o : HO} {j : Nat}, BoxAt H2 tin j → BoxAt (upd H2 D o) tin j := fun {H2 o j} b => by
      obtain ⟨x, y, z, e, h⟩ := b
      exact ⟨x, y, z, by rw [upd_ne hDt]; exact e, h⟩
    refine ⟨fun i m H2 => m = xs.length - i ∧ i ≤ xs.length ∧ Sx tin H1 H2 ∧ BoxAt H2 tin (k0 + n * (xs.length - i)) ∧ ∃ acc ds, H2 D = some (.lst acc) ∧ DqAll K (hid (more c D) H2) acc ds ∧ Paired Pv (xs.take i) ds, ⟨xs.length, by simp, Nat.zero_le _, sxu Sx.refl, bxu (by simpa using bx1), [], [], upd_same .., .nil, by simpa using Paired.nil⟩, ?_⟩
    rintro i m H2 ⟨rfl, hil, s2, b2, acc, ds, hacc, racc, hp⟩
    have hDn : Cel (H2 D) := by rw [hacc]; exact cel_lst
    obtain ⟨jg, js, jy⟩ := j1 (more c D) H2 (fz H2 s2) (okD H2 s2 hDn)
    by_cases hlt : i < xs.length
    · have hx : xs[i]? = some xs[i] := List.getElem?_eq_getElem hlt
      have et : xs.take (i + 1) = xs.take i ++ [xs[i]] := by rw [List.take_add_one, hx]; rfl
      have ek : k0 + n * (xs.length - i) = (k0 + n * (xs.length - (i + 1))) + n := by
        have : xs.length - i = (xs.length - (i + 1)) + 1 := by omega
        rw [this, Nat.mul_add, Nat.mul_one]
        omega
      refine .inr ⟨jg i hlt, fun H' => Sx tin H1 H' ∧ BoxAt H' tin (k0 + n * (xs.length - (i + 1))) ∧ ∃ acc ds, H' D = some (.lst acc) ∧ DqAll K (hid (more c D) H') acc ds ∧ Paired Pv (xs.take (i + 1)) ds, fun H' h => ⟨xs.length - (i + 1), by omega, rfl, by omega, h⟩, fun v H3 y => ?_⟩
      obtain ⟨s3, r3⟩ := jy i v H3 _ hx y
      have s13 := s2.trans (.of s3)
      have hD3 : H3 D = some (.lst acc) := s3 _ _ hacc
      have ok3 := okD H3 s13 (by rw [hD3]; exact cel_lst)
      obtain ⟨σ2, eg, ew, ee⟩ := body (hid (more c D) H3) v xs[i] (a.trans (s1.hid.trans (fz H3 s13))) (List.getElem_mem hlt) r3
      refine eg _ H3 (Same.refl _) ok3 _ ⟨ew, ?_⟩
      dsimp only [tYes]
      rw [if_pos rfl]
      refine ee _ H3 (k0 + n * (xs.length - (i + 1))) (Same.refl _) ok3 ctD (by rw [← ek]; exact b2.same s3) _ fun w H5 d pd s5 b5 r5 => ⟨acc, s5.1 _ _ hDt.symm hD3, ?_, sxu (s13.trans s5), bxu b5, _, ds ++ [d], upd_same .., ?_, ?_⟩
      · have := hp.length
        rw [DqAll.length racc, ← this, List.length_take]
        omega
      · have g : DqAll K (hid (more c D) H5) acc ds := dpAll_mono (s5.hid ctD) _ _ (dpAll_mono s3.hid _ _ racc)
        exact (dpAll_mono (hid_upd more_self) _ _ g).append (.cons (dp_mono (hid_upd more_self) _ _ r5) .nil)
      · rw [et]
        exact paired_append hp (.cons pd .nil)
    · have e : i = xs.length := by omega
      subst e
      rw [List.take_length] at hp
      exact .inl ⟨js, q _ H2 _ ⟨ds, rfl, hp⟩ ((Sx.of s1).trans s2) (b2.mono (by omega)) (.lst (.inl (by rw [hid_at (okH1.new hD)]; exact hacc)) (dpAll_mono hid_less _ _ racc))⟩
end
section
variable {P : Program} {w : World} {K : PySem.W.Frag} {mg : Str → Option Value} {base : Heap} {x : Str} {st : Stmt} {k n : Nat} {ps N : List Str}
/-- a def that draws, by its body -/
theorem cal_draw {R : List PyData → PyData → Prop} (D : DefIn K mg x st) (S : FnScope N ps (defScope st)) (hb : ∀ (kV doc pm : Value) (an : Option Addr) (cdv ct : Value) (us : List Value), us.length = ps.length → bindArgs (PySem.W.fnOf x x (defArgs st) (defBody st) (defScope st) .none kV doc pm an cdv ct) ⟨us, []⟩ = pure (ps.zip us))
    (hR : ∀ ds r, R ds r → ds.length + 1 = ps.length)
    (body : ∀ (f : Addr) (cdv : Value) (A : Around) (outer : List Env) (s : Shared) (H : Hp) (E : XK), Room k (A.deeper (envOfC x (defScope st) s.heap.objs.size f cdv)) →
      ∃ t, PSs (cxOf CX0 P w K mg base N x (defScope st) f cdv A outer s H E).nox (defBody st) t ∧ ∀ F tin vs ds, (∃ r, R ds r) → DqAll K F vs ds → EvRB K F tin n t (start N (.ref tin :: vs)) (R ds)) : C8.Cal P w K mg base (k + 1) x (SpD K n R) [] := by
  refine cal_any D S hb (fun vs H Q E h => ?_) fun f cdv A outer s H E hr => ?_
  · obtain ⟨tin, vs', c, ds, k, rfl, ct, ok, b, hv, ⟨r, hr⟩, q⟩ := h
    rw [List.length_cons, DqAll.length hv]
    exact hR ds r hr
  · obtain ⟨t, ht, er⟩ := body f cdv A outer s H E hr
    refine ⟨t, ht, fun vs Q h => ?_⟩
    obtain ⟨tin, vs', c, ds, k, rfl, ct, ok, b, hv, hr, q⟩ := h
    exact er (hid c H) tin vs' ds hr hv c H k (Same.refl _) ok ct b _ fun v H' r hr s b' rv => q v H' r hr s b' rv
end
end Sp
namespace Sp
open PySem PySem.Spec PyProof.Rows L2
open PySem.W (Datum DatumOrd Tup)
/-- one cell not hidden -/
def less1 (c : Addr → Bool) (p : Addr) : Addr → Bool := fun b => c b && !(b == p)
theorem less1_self {c : Addr → Bool} {p : Addr} : less1 c p p = false := by simp [less1]
theorem hid_less1 {c : Addr → Bool} {p : Addr} {H : Hp} : Same (hid c H) (hid (less1 c p) H) := fun b o e => by
  unfold hid at e ⊢
  split at e
  · cases e
  · rename_i h
    have : c b = false := by simpa using h
    simp [less1, this]
    exact e
theorem okc_less1 {c : Addr → Bool} {p : Addr} {H : Hp} (ok : Okc c H) : Okc (less1 c p) H := fun b hb => ok b (by simp [less1] at hb; exact hb.1)
theorem rp_thaw {K : PySem.W.Frag} {c : Addr → Bool} {p : Addr} {H : Hp} {ns : List Int} (e : H p = some (.lst (ns.map V.int))) : Rp K (hid (less1 c p) H) (.ref p) ns := rp_mkL (.inl (by rw [hid_at less1_self]; exact e)) rps_ints
/-- back under the hiding -/
theorem hid_sx {c : Addr → Bool} {p : Addr} {H H' : Hp} (ct : c p = true) (s : Same (hid c H) (hid c H')) : Same (hid c H) (hid c H') := s
end Sp
namespace Sp
open PySem PySem.Spec PyProof.Rows L2
theorem run_er {K : PySem.W.Frag} {c : Addr → Bool} {H : Hp} {σ : L2.St} {t : TS} {D : Ends} {Pv : PyData → Prop} (h : ∃ d, Pv d ∧ EvR K (hid c H) t σ d) (ok : Okc c H) (q : ∀ v H' d, Pv d → Same H H' → Dq K (hid c H') v d → D.rt v H') : t D σ H := by
  obtain ⟨d, p, er⟩ := h
  exact er c H (Same.refl _) ok D fun v H' s r => q v H' d p s r
end Sp
namespace Sp
open PySem PySem.Spec PyProof.Rows L2
open PySem.W (Datum DatumOrd Tup)
section
variable {K : PySem.W.Frag} {F F' : Hp} {σ : L2.St} {α : Type} [DecidableEq α] [Datum α]
/-- [[] for t in xs]: the new lists by their places -/
theorem lc_fresh {wi : TI} {g : TG} {vs : List Nat} {xs : List α} (hi : EvI K F wi σ xs) (hg : ∀ (F' : Hp) (v : V) (x : α), ∃ σ2, EvG F' g v (wipe σ vs) σ2 ∧ wipe σ2 vs = wipe σ vs) {c : Addr → Bool} {H : Hp} (a : Same F (hid c H)) (ok : Okc c H) {Q : VK}
    (q : ∀ L H' (as : List Addr), Same H H' → H L = none → H' L = some (.lst (as.map V.ref)) → as.length = xs.length → (∀ p ∈ as, H p = none ∧ H' p = some (.lst []) ∧ p ≠ L) → Q (.ref L) H') : tLc wi g tYes (tLst tNil) vs σ H Q :=
  hi c H a ok _ fun J H1 s1 j1 hz D hD => by
    have okH1 := ok.mono s1
    have hDH : H D = none := by
      cases e : H D with
      | none => rfl
      | some o => rw [s1 _ _ e] at hD; cases hD
    have fz : ∀ H2, Same H1 H2 → Same (hid c H1) (hid (more c D) H2) := fun H2 s => hid_more hD s
    have okD : ∀ H2, Same H1 H2 → Cel (H2 D) → Okc (more c D) H2 := fun H2 s h => okc_more (okH1.mono s) h
    refine ⟨fun i m H2 => m = xs.length - i ∧ i ≤ xs.length ∧ Same H1 H2 ∧ ∃ as : List Addr, H2 D = some (.lst (as.map V.ref)) ∧ as.length = i ∧ ∀ p ∈ as, H p = none ∧ H2 p = some (.lst []) ∧ p ≠ D, ⟨xs.length, by simp, Nat.zero_le _, same_upd hD (Same.refl _), [], upd_same .., rfl, by simp⟩, ?_⟩
    rintro i m H2 ⟨rfl, hil, s2, as, hacc, hal, has⟩
    have hDn : Cel (H2 D) := by rw [hacc]; exact cel_lst
    obtain ⟨jg, js, jy⟩ := j1 (more c D) H2 (fz H2 s2) (okD H2 s2 hDn)
    by_cases hlt : i < xs.length
    · have hx : xs[i]? = some xs[i] := List.getElem?_eq_getElem hlt
      refine .inr ⟨jg i hlt, fun H' => Same H1 H' ∧ ∃ as : List Addr, H' D = some (.lst (as.map V.ref)) ∧ as.length = i + 1 ∧ ∀ p ∈ as, H p = none ∧ H' p = some (.lst []) ∧ p ≠ D, fun H' h => ⟨xs.length - (i + 1), by omega, rfl, by omega, h⟩, fun v H3 y => ?_⟩
      obtain ⟨s3, r3⟩ := jy i v H3 _ hx y
      have s13 := s2.trans s3
      have hD3 : H3 D = some (.lst (as.map V.ref)) := s3 _ _ hacc
      have ok3 := okD H3 s13 (by rw [hD3]; exact cel_lst)
      obtain ⟨σ2, eg, ew⟩ := hg (hid (more c D) H3) v xs[i]
      refine eg _ H3 (Same.refl _) ok3 _ ⟨ew, ?_⟩
      dsimp only [tYes]
      rw [if_pos rfl]
      refine ⟨Nat.zero_le _, fun p hp => ⟨as.map V.ref, ?_, ?_, same_upd hD (s13.trans (same_new hp)), as ++ [p], by rw [upd_same, List.map_append]; rfl, by rw [List.length_append, hal]; rfl, fun b hb => ?_⟩⟩
      · rw [upd_ne (fun e => by rw [← e, hD3] at hp; cases hp)]
        exact hD3
      · rw [List.length_map, hal]
        omega
      · have hpD : p ≠ D := fun e => by rw [e, hD3] at hp; cases hp
        rcases List.mem_append.mp hb with hb | hb
        · obtain ⟨h1, h2, h3⟩ := has b hb
          have h4 : H3 b = some (.lst []) := s3 _ _ h2
          refine ⟨h1, ?_, h3⟩
          rw [upd_ne h3, upd_ne (fun e => by rw [← e, h4] at hp; cases hp)]
          exact h4
        · have e : b = p := by simpa using hb
          rw [e]
          refine ⟨?_, by rw [upd_ne hpD, upd_same], hpD⟩
          cases z : H p with
          | none => rfl
          | some o => rw [s3 _ _ (s2 _ _ (s1 _ _ z))] at hp; cases hp
    · have e : i = xs.length := by omega
      subst e
      exact .inl ⟨js, q D H2 as (s1.trans s2) hDH hacc hal has⟩
/-- many cells hidden -/
def moreL (c : Addr → Bool) (as : List Addr) : Addr → Bool := fun b => c b || as.any (· == b)
theorem moreL_in {c : Addr → Bool} {as : List Addr} {b : Addr} (h : b ∈ as) : moreL c as b = true := by
  unfold moreL
  rw [Bool.or_eq_true]
  exact .inr (List.any_eq_true.mpr ⟨b, h, by simp⟩)
theorem moreL_c {c : Addr → Bool} {as : List Addr} {b : Addr} (h : c b = true) : moreL c as b = true := by simp [moreL, h]
theorem moreL_not {c : Addr → Bool} {as : List Addr} {b : Addr} (h : c b = false) (h2 : b ∉ as) : moreL c as b = false := by
  cases e : moreL c as b with
  | false => rfl
  | true =>
    unfold moreL at e
    rw [h, Bool.false_or] at e
    obtain ⟨x, hx, hb⟩ := List.any_eq_true.mp e
    have : x = b := by simpa using hb
    exact absurd (this ▸ hx) h2
theorem hid_moreL {c : Addr → Bool} {as : List Addr} {H : Hp} : Same (hid (moreL c as) H) (hid c H) := fun b o e => by
  unfold hid at e ⊢
  split at e
  · cases e
  · rename_i h
    rw [if_neg (fun z => h (moreL_c z))]
    exact e
end
end Sp
namespace Sp
open PySem PySem.Spec PyProof.Rows L2
theorem seq_set {te : TE} {u : TS} {i : Nat} {D : Ends} {σ : L2.St} {H : Hp} (h : te σ H fun x H1 => u D (σ.set i (some x)) H1) : tSeq (tAsg te (gName i)) u D σ H := h
theorem seq_if {c : TT} {s1 s2 u : TS} {D : Ends} {σ : L2.St} {H : Hp} (h : c σ H fun b H1 => if b = true then tSeq s1 u D σ H1 else tSeq s2 u D σ H1) : tSeq (tIfS c s1 s2) u D σ H := h
end Sp
namespace Sp
open PySem PySem.Spec PyProof.Rows L2
open PySem.W (Datum DatumOrd Tup)
section
variable {K : PySem.W.Frag} {F F' : Hp} {tin : Addr} {σ : L2.St} {ta tb te : TE} {tt tu : TT} {t u tw : TS} {n m n1 : Nat} {α β γ δ : Type} [DecidableEq α] [Datum α] [DecidableEq β] [Datum β] [DecidableEq γ] [Datum γ] [DecidableEq δ] [Datum δ]
theorem evd_val {v : V} {d : PyData} (r : Dq K F v d) : EvD K F (tC v) σ d := fun c H a ok Q q => q v H (Same.refl _) (dp_mono a _ _ r)
theorem ev_val {v : V} {x : α} (r : Rp K F v x) : Ev K F (tC v) σ x := evd_val r
/-- what is done with a drawn value -/
theorem eb_lift {Pv Pw : PyData → Prop} (f : TE → TE) (hf : ∀ te H Q, f te σ H Q = te σ H fun v H1 => f (tC v) σ H1 Q) (h : EvB K F tin n te σ Pv) (k : ∀ F' v d, Same F F' → Pv d → Dq K F' v d → ∃ e, Pw e ∧ EvD K F' (f (tC v)) σ e) : EvB K F tin n (f te) σ Pw := fun c H j a ok ct b Q q => by
  rw [hf]
  refine h c H j a ok ct b _ fun v H1 d p s1 b1 r1 => ?_
  obtain ⟨e, pe, ev⟩ := k (hid c H1) v d (a.trans (s1.hid ct)) p r1
  exact ev c H1 (Same.refl _) (s1.okc ok) _ fun w H2 s2 r2 => q w H2 e pe (s1.trans (.of s2)) (b1.same s2) r2
theorem eb_liftB {Pv Pw : PyData → Prop} (f : TE → TE) (hf : ∀ te H Q, f te σ H Q = te σ H fun v H1 => f (tC v) σ H1 Q) (h : EvB K F tin n te σ Pv) (k : ∀ F' v d, Same F F' → Pv d → Dq K F' v d → EvB K F' tin m (f (tC v)) σ Pw) : EvB K F tin (m + n) (f te) σ Pw := fun c H j a ok ct b Q q => by
  rw [hf]
  refine h c H (j + m) a ok ct (b.mono (by omega)) _ fun v H1 d p s1 b1 r1 => ?_
  exact k (hid c H1) v d (a.trans (s1.hid ct)) p r1 c H1 j (Same.refl _) (s1.okc ok) ct b1 _ fun w H2 e pe s2 b2 r2 => q w H2 e pe (s1.trans s2) b2 r2
/-- x(tin, a, b), b drawn -/
theorem eb_callR {R : List PyData → PyData → Prop} {Pb : PyData → Prop} {x : α} {i : Nat} (hi : σ[i]? = some (some (.ref tin))) (ha : Ev K F ta σ x) (hb : EvB K F tin n1 tb σ Pb) (h : ∀ d, Pb d → ∃ r, R [Datum.toD x, d] r) :
    EvB K F tin (n + n1) (tCall (SpD K n R) [] E0 (tCons (tVar i) (tCons ta (tCons tb tNil)))) σ (fun r => ∃ d, Pb d ∧ R [Datum.toD x, d] r) := fun c H k a ok ct b Q q =>
  ⟨.ref tin, hi, ha c H a ok _ fun v H1 s1 r1 => hb c H1 (k + n) (a.trans s1.hid) (ok.mono s1) ct ((b.same s1).mono (by omega)) _ fun w H2 d p s2 b2 r2 =>
    ⟨tin, [v, w], c, [Datum.toD x, d], k, by rw [List.append_nil], ct, s2.okc (ok.mono s1), b2, .cons (dp_mono (s2.hid ct) _ _ r1) (.cons r2 .nil), h d p, fun y H3 r hr s3 b3 r3 => q y H3 r ⟨d, p, hr⟩ (((Sx.of s1).trans s2).trans s3) b3 r3⟩⟩
/-- xs + (drawn list) -/
theorem eb_catR {xs : List α} {Pv : List α → Prop} (ha : Ev K F ta σ xs) (hb : EvB K F tin n tb σ fun d => ∃ ys : List α, d = Datum.toD ys ∧ Pv ys ∧ xs.length + ys.length ≤ sizeLine) : EvB K F tin n (tOp rCatL ta tb) σ (fun d => ∃ ys : List α, Pv ys ∧ d = Datum.toD (xs ++ ys)) := fun c H k a ok ct b Q q =>
  ha c H a ok _ fun v H1 s1 r1 => hb c H1 k (a.trans s1.hid) (ok.mono s1) ct (b.same s1) _ fun w H2 d hd s2 b2 r2 => by
    obtain ⟨ys, rfl, p, hl⟩ := hd
    obtain ⟨e, vs, rfl, hs, hr⟩ := rp_lst (r1.mono (s2.hid ct))
    obtain ⟨g, ws, rfl, hs2, hr2⟩ := rp_lst (show Rp K _ w ys from r2)
    have ok2 := s2.okc (ok.mono s1)
    exact ⟨e, g, vs, ws, rfl, rfl, rd_le hs, rd_le hs2, by rw [hr.length, hr2.length]; exact hl, fun p' np => q _ _ _ ⟨ys, p, rfl⟩ (((Sx.of s1).trans s2).trans (.of (same_new np))) (b2.same (same_new np)) (rp_mkL (.inl (hid_new (ok2.new np))) ((hr.append hr2).mono (same_new np).hid))⟩
/-- blocks that draw and go on -/
def EvNB (F : Hp) (tin : Addr) (n : Nat) (t : TS) (σ : L2.St) (N : Hp → L2.St → Prop) : Prop := ∀ c H k, Same F (hid c H) → Okc c H → c tin = true → BoxAt H tin (k + n) → ∀ D : Ends,
  (∀ σ' H', Sx tin H H' → BoxAt H' tin k → N (hid c H') σ' → D.nx σ' H') → t D σ H
theorem EvNB.more {N : Hp → L2.St → Prop} (h : EvNB F tin n t σ N) (hn : n ≤ m) : EvNB F tin m t σ N := fun c H k a ok ct b Q q => h c H (k + (m - n)) a ok ct (b.mono (by omega)) Q fun v H' s b' => q v H' s (b'.mono (by omega))
theorem enb_next {N : Hp → L2.St → Prop} (h : ∀ F', Same F F' → N F' σ) : EvNB F tin n tNext σ N := fun c H k a ok ct b D q => q σ H Sx.refl (b.mono (by omega)) (h _ a)
theorem enb_pure {N : Hp → L2.St → Prop} (h : EvN F t σ N) : EvNB F tin n t σ N := fun c H k a ok ct b D q => h c H a ok D fun σ' H' s p => q σ' H' (.of s) ((b.same s).mono (by omega)) p
theorem enb_setB {Pv : PyData → Prop} {i : Nat} {N : Hp → L2.St → Prop} (h : EvB K F tin n te σ Pv) (k : ∀ F' v d, Same F F' → Pv d → Dq K F' v d → N F' (σ.set i (some v))) : EvNB F tin n (tAsg te (gName i)) σ N := fun c H j a ok ct b D q =>
  h c H j a ok ct b _ fun v H1 d p s1 b1 r1 => q _ H1 s1 b1 (k (hid c H1) v d (a.trans (s1.hid ct)) p r1)
theorem enb_seq {N M : Hp → L2.St → Prop} (h : EvNB F tin n1 t σ M) (k : ∀ F' σ', Same F F' → M F' σ' → EvNB F' tin n u σ' N) : EvNB F tin (n + n1) (tSeq t u) σ N := fun c H j a ok ct b D q =>
  h c H (j + n) a ok ct (b.mono (by omega)) { D with nx := u D } fun σ' H1 s1 b1 m => k (hid c H1) σ' (a.trans (s1.hid ct)) m c H1 j (Same.refl _) (s1.okc ok) ct b1 D fun σ2 H2 s2 b2 n => q σ2 H2 (s1.trans s2) b2 n
theorem enb_if {b : Bool} {s1 s2 : TS} {N : Hp → L2.St → Prop} (h : EvT F tt σ b) (k1 : b = true → EvNB F tin n s1 σ N) (k2 : b = false → EvNB F tin n s2 σ N) : EvNB F tin n (tIfS tt s1 s2) σ N := fun c H j a ok ct bx D q =>
  h c H a ok _ fun H1 t1 => by
    cases b with
    | true => exact k1 rfl c H1 j (a.trans t1.hid) (ok.mono t1) ct (bx.same t1) D fun w H2 t2 b2 r2 => q w H2 ((Sx.of t1).trans t2) b2 r2
    | false => exact k2 rfl c H1 j (a.trans t1.hid) (ok.mono t1) ct (bx.same t1) D fun w H2 t2 b2 r2 => q w H2 ((Sx.of t1).trans t2) b2 r2
theorem erb_seqN {M : Hp → L2.St → Prop} {Pv : PyData → Prop} (h : EvNB F tin n1 t σ M) (k : ∀ F' σ', Same F F' → M F' σ' → EvRB K F' tin n u σ' Pv) : EvRB K F tin (n + n1) (tSeq t u) σ Pv := fun c H j a ok ct b D q =>
  h c H (j + n) a ok ct (b.mono (by omega)) { D with nx := u D } fun σ' H1 s1 b1 m => k (hid c H1) σ' (a.trans (s1.hid ct)) m c H1 j (Same.refl _) (s1.okc ok) ct b1 D fun v H2 d p s2 b2 r => q v H2 d p (s1.trans s2) b2 r
end
end Sp

set_option Elab.async false
set_option linter.all false
set_option maxRecDepth 100000
set_option maxHeartbeats 2000000
namespace Sp
open PySem PySem.Spec PyProof.Rows L2
open PySem.W (Datum DatumOrd Tup)
theorem toD_inj {α : Type} [DecidableEq α] [Datum α] {a b : α} (h : Datum.toD a = Datum.toD b) : a = b := by
  have e := Datum.eqv a b
  rw [← h, Datum.eqv a a, decide_eq_true rfl] at e
  exact of_decide_eq_true e.symm
/-- all but the box and one list stands -/
def Sm (tin D : Addr) (H H' : Hp) : Prop := (∀ b o, b ≠ tin → b ≠ D → H b = some o → H' b = some o) ∧ (∀ b, H b ≠ none → H' b ≠ none) ∧ ∀ b, Cel (H b) → Cel (H' b)
theorem Sm.refl {tin D : Addr} {H : Hp} : Sm tin D H H := ⟨fun _ _ _ _ e => e, fun _ h => h, fun _ h => h⟩
theorem Sm.trans {tin D : Addr} {H H' H'' : Hp} (a : Sm tin D H H') (b : Sm tin D H' H'') : Sm tin D H H'' := ⟨fun x o n m e => b.1 x o n m (a.1 x o n m e), fun x h => b.2.1 x (a.2.1 x h), fun x h => b.2.2 x (a.2.2 x h)⟩
theorem Sm.of {tin D : Addr} {H H' : Hp} (s : Sx tin H H') : Sm tin D H H' := ⟨fun x o n _ e => s.1 x o n e, s.2.1, s.2.2⟩
theorem Sm.upd {tin D : Addr} {H : Hp} {o : HO} (hn : ∀ xs, o ≠ .tup xs := by exact fun _ z => nomatch z) : Sm tin D H (upd H D o) := ⟨fun x u _ n e => by rw [upd_ne n]; exact e, (fun x h => by
  by_cases e : x = D
  · rw [e, upd_same]; exact fun z => nomatch z
  · rw [upd_ne e]; exact h), (fun x h => by
  by_cases e : x = D
  · rw [e, upd_same]; exact ⟨o, rfl, hn⟩
  · rw [upd_ne e]; exact h)⟩
theorem Sm.hid {c : Addr → Bool} {tin D : Addr} {H H' : Hp} (ct : c tin = true) (cd : c D = true) (s : Sm tin D H H') : Same (hid c H) (hid c H') := fun b o e => by
  unfold Sp.hid at e ⊢
  split at e
  · cases e
  · rename_i h
    rw [if_neg h]
    exact s.1 b o (fun z => h (by rw [z]; exact ct)) (fun z => h (by rw [z]; exact cd)) e
theorem Sm.okc {c : Addr → Bool} {tin D : Addr} {H H' : Hp} (s : Sm tin D H H') (k : Okc c H) : Okc c H' := fun b hb => s.2.2 b (k b hb)
theorem BoxAt.upd {H : Hp} {tin D : Addr} {k : Nat} {o : HO} (b : BoxAt H tin k) (n : D ≠ tin) : BoxAt (upd H D o) tin k := by
  obtain ⟨x, y, z, e, h⟩ := b
  exact ⟨x, y, z, by rw [upd_ne (Ne.symm n)]; exact e, h⟩
section
variable {K : PySem.W.Frag} {F F' : Hp} {tin D : Addr} {σ : L2.St} {ta tb te : TE} {tt tu : TT} {t u tw : TS} {n m n1 : Nat} {α β γ δ : Type} [DecidableEq α] [Datum α] [DecidableEq β] [Datum β] [DecidableEq γ] [Datum γ] [DecidableEq δ] [Datum δ]
/-- the hidden cell D holds the list xs -/
def CellL (K : PySem.W.Frag) (c : Addr → Bool) (H : Hp) (tin D : Addr) (xs : List α) : Prop := c D = true ∧ D ≠ tin ∧ ∃ acc, H D = some (.lst acc) ∧ Rps K (hid c H) acc xs
theorem CellL.sx {c : Addr → Bool} {H H' : Hp} {xs : List α} (ct : c tin = true) (s : Sx tin H H') (h : CellL K c H tin D xs) : CellL K c H' tin D xs := by
  obtain ⟨a, b, acc, e, r⟩ := h
  exact ⟨a, b, acc, s.1 _ _ b e, r.mono (s.hid ct)⟩
theorem CellL.thaw {c : Addr → Bool} {H : Hp} {xs : List α} (h : CellL K c H tin D xs) : Rp K (hid (less1 c D) H) (.ref D) xs := by
  obtain ⟨a, b, acc, e, r⟩ := h
  exact rp_mkL (.inl (by rw [hid_at less1_self]; exact e)) (r.mono hid_less1)
theorem CellL.tin1 {c : Addr → Bool} {H : Hp} {xs : List α} (ct : c tin = true) (h : CellL K c H tin D xs) : less1 c D tin = true := by
  have := h.2.1
  simp [less1, ct, Ne.symm this]
/-- blocks that draw, may change the list D and go on -/
def EvMB (K : PySem.W.Frag) (F : Hp) (tin : Addr) (n : Nat) (D : Addr) (t : TS) (σ : L2.St) (xs : List α) (N : Hp → L2.St → List α → Prop) : Prop := ∀ c H k, Same F (hid c H) → Okc c H → c tin = true → BoxAt H tin (k + n) → CellL K c H tin D xs → ∀ DD : Ends,
  (∀ σ' H' ys, Sm tin D H H' → BoxAt H' tin k → CellL K c H' tin D ys → N (hid c H') σ' ys → DD.nx σ' H') → t DD σ H
variable {xs : List α} {N : Hp → L2.St → List α → Prop}
theorem EvMB.more (h : EvMB K F tin n D t σ xs N) (hn : n ≤ m) : EvMB K F tin m D t σ xs N := fun c H k a ok ct b cl Q q => h c H (k + (m - n)) a ok ct (b.mono (by omega)) cl Q fun v H' ys s b' => q v H' ys s (b'.mono (by omega))
theorem EvMB.imp {M : Hp → L2.St → List α → Prop} (h : EvMB K F tin n D t σ xs N) (i : ∀ F' σ' ys, Same F F' → N F' σ' ys → M F' σ' ys) : EvMB K F tin n D t σ xs M := fun c H k a ok ct b cl Q q => h c H k a ok ct b cl Q fun v H' ys s b' cl' p => q v H' ys s b' cl' (i _ _ _ (a.trans (s.hid ct cl.1)) p)
theorem emb_next (h : ∀ F', Same F F' → N F' σ xs) : EvMB K F tin n D tNext σ xs N := fun c H k a ok ct b cl DD q => q σ H xs .refl (b.mono (by omega)) cl (h _ a)
theorem emb_of (h : EvNB F tin n t σ fun F' σ' => N F' σ' xs) : EvMB K F tin n D t σ xs N := fun c H k a ok ct b cl DD q =>
  h c H k a ok ct b DD fun σ' H' s b' p => q σ' H' xs (.of s) b' (cl.sx ct s) p
theorem emb_seq {M : Hp → L2.St → List α → Prop} (h : EvMB K F tin n1 D t σ xs M) (k : ∀ F' σ' ys, Same F F' → M F' σ' ys → EvMB K F' tin n D u σ' ys N) : EvMB K F tin (n + n1) D (tSeq t u) σ xs N := fun c H j a ok ct b cl DD q =>
  h c H (j + n) a ok ct (b.mono (by omega)) cl { DD with nx := u DD } fun σ' H1 ys s1 b1 c1 m => k (hid c H1) σ' ys (a.trans (s1.hid ct cl.1)) m c H1 j (Same.refl _) (s1.okc ok) ct b1 c1 DD fun σ2 H2 zs s2 b2 c2 n => q σ2 H2 zs (s1.trans s2) b2 c2 n
theorem same_less1 {c : Addr → Bool} {H : Hp} (a : Same F (hid c H)) : Same F (hid (less1 c D) H) := a.trans hid_less1
/-- a test that may read the list -/
theorem emb_if {b : Bool} {s1 s2 : TS} (h : ∀ F', Same F F' → Rp K F' (.ref D) xs → EvT F' tt σ b) (k1 : b = true → EvMB K F tin n D s1 σ xs N) (k2 : b = false → EvMB K F tin n D s2 σ xs N) : EvMB K F tin n D (tIfS tt s1 s2) σ xs N := fun c H j a ok ct bx cl DD q =>
  h _ (same_less1 a) cl.thaw (less1 c D) H (Same.refl _) (okc_less1 ok) _ fun H1 t1 => by
    have cl1 := cl.sx ct (.of t1)
    cases b with
    | true => exact k1 rfl c H1 j (a.trans t1.hid) (ok.mono t1) ct (bx.same t1) cl1 DD fun w H2 ys t2 b2 c2 r2 => q w H2 ys ((Sm.of (.of t1)).trans t2) b2 c2 r2
    | false => exact k2 rfl c H1 j (a.trans t1.hid) (ok.mono t1) ct (bx.same t1) cl1 DD fun w H2 ys t2 b2 c2 r2 => q w H2 ys ((Sm.of (.of t1)).trans t2) b2 c2 r2
theorem eraseIdx_rps {F : Hp} : ∀ {acc : List V} {xs : List α} (k : Nat), Rps K F acc xs → Rps K F (acc.eraseIdx k) (xs.eraseIdx k)
  | _, [], k, h => by cases (show DqAll K F _ [] from h); exact Rps.nil
  | _, x :: xs, k, h => by
    cases (show DqAll K F _ (Datum.toD x :: xs.map Datum.toD) from h) with
    | cons h1 h2 =>
      cases k with
      | zero => exact h2
      | succ k => exact Rps.cons h1 (eraseIdx_rps k h2)
/-- xs.pop(i), i drawn -/
theorem emb_pop {i : Nat} {Pv : PyData → Prop} (hi : σ[i]? = some (some (.ref D))) (h : ∀ F', Same F F' → Rp K F' (.ref D) xs → EvB K F' tin n te σ Pv) (hp : ∀ d, Pv d → ∃ j : Int, d = .int j ∧ 0 ≤ j ∧ j < xs.length) (hl : xs.length < 2 ^ 63)
    (k : ∀ F' d, Same F F' → Pv d → ∀ j : Nat, d = .int (j : Int) → N F' σ (xs.eraseIdx j)) : EvMB K F tin n D (tDrop (tBM K "list" rPopAt (tVar i) (tCons te tNil))) σ xs N := fun c H j a ok ct b cl DD q => by
  obtain ⟨cD, hD, acc, e, r⟩ := cl
  refine ⟨.ref D, hi, .inl ⟨rfl, acc, .inl (.inl e)⟩, ?_⟩
  refine h _ (same_less1 a) (CellL.thaw ⟨cD, hD, acc, e, r⟩) (less1 c D) H j (Same.refl _) (okc_less1 ok) (CellL.tin1 ct ⟨cD, hD, acc, e, r⟩) b _ fun w H1 d p s1 b1 r1 => ?_
  obtain ⟨z, rfl, z0, z1⟩ := hp d p
  have hw : w = .int z := by cases r1; rfl
  subst hw
  have e1 : H1 D = some (.lst acc) := s1.1 _ _ hD e
  have hz : z = (z.toNat : Int) := by omega
  have hal := r.length
  have r2 : Rps K (hid c H1) acc xs := r.mono (s1.hid ct)
  have hu : Same (hid c H1) (hid c (upd H1 D (.lst (acc.eraseIdx z.toNat)))) := hid_upd cD
  refine ⟨D, acc, z, z.toNat, acc[z.toNat]'(by omega), rfl, rfl, e1, by omega, by omega, PySem.StrLaws.seqIndex_nonneg z0 (by omega), List.getElem?_eq_getElem (by omega), ?_⟩
  exact q σ _ (xs.eraseIdx z.toNat) ((Sm.of s1).trans .upd) (b1.upd hD) ⟨cD, hD, _, upd_same .., (eraseIdx_rps _ r2).mono hu⟩ (k _ _ (a.trans ((s1.hid ct).trans hu)) p z.toNat (by rw [← hz]))
/-- xs.append(e), e drawn -/
theorem emb_append {i : Nat} {Pv : PyData → Prop} (hi : σ[i]? = some (some (.ref D))) (h : EvB K F tin n te σ Pv) (hl : xs.length < sizeLine)
    (k : ∀ F' d, Same F F' → Pv d → ∃ y : α, d = Datum.toD y ∧ N F' σ (xs ++ [y])) : EvMB K F tin n D (tDrop (tBM K "list" rAppend (tVar i) (tCons te tNil))) σ xs N := fun c H j a ok ct b cl DD q => by
  obtain ⟨cD, hD, acc, e, r⟩ := cl
  refine ⟨.ref D, hi, .inl ⟨rfl, acc, .inl (.inl e)⟩, ?_⟩
  refine h c H j a ok ct b _ fun w H1 d p s1 b1 r1 => ?_
  have e1 : H1 D = some (.lst acc) := s1.1 _ _ hD e
  have hal := r.length
  have r2 : Rps K (hid c H1) acc xs := r.mono (s1.hid ct)
  have hu : Same (hid c H1) (hid c (upd H1 D (.lst (acc ++ [w])))) := hid_upd cD
  obtain ⟨y, rfl, ny⟩ := k _ d (a.trans ((s1.hid ct).trans hu)) p
  refine ⟨D, acc, w, rfl, rfl, e1, by omega, ?_⟩
  exact q σ _ (xs ++ [y]) ((Sm.of s1).trans .upd) (b1.upd hD) ⟨cD, hD, _, upd_same .., (r2.append (.cons (show Rp K _ w y from r1) .nil)).mono hu⟩ ny
/-- for x in ys, the list changing -/
theorem emb_for {wi : TI} {g : TG} {tb : TS} {ys : List β} (hi : EvI K F wi σ ys) (Pv : Nat → Hp → L2.St → List α → Prop) (mono : ∀ i F1 F2 σ xs, Same F1 F2 → Pv i F1 σ xs → Pv i F2 σ xs) (h0 : Pv 0 F σ xs)
    (step : ∀ (i : Nat) (F' : Hp) (v : V) (y : β) (σ' : L2.St) (xs' : List α), Same F F' → ys[i]? = some y → Rp K F' v y → Pv i F' σ' xs' → ∃ σ2, EvG F' g v σ' σ2 ∧ EvMB K F' tin n D tb σ2 xs' (Pv (i + 1))) :
    EvMB K F tin (n * ys.length) D (tFor wi g tb) σ xs (Pv ys.length) := fun c H k a ok ct b cl DD q =>
  hi c H a ok _ fun J H1 s1 j1 hz => by
    have ok1 := ok.mono s1
    refine ⟨fun i m σ' H2 => m = ys.length - i ∧ i ≤ ys.length ∧ Sm tin D H1 H2 ∧ BoxAt H2 tin (k + n * (ys.length - i)) ∧ ∃ zs, CellL K c H2 tin D zs ∧ Pv i (hid c H2) σ' zs, ⟨ys.length, by simp, Nat.zero_le _, .refl, by simpa using b.same s1, xs, cl.sx ct (.of s1), mono 0 _ _ _ _ (a.trans s1.hid) h0⟩, ?_⟩
    rintro i m σ' H2 ⟨rfl, hil, s2, b2, zs, c2, p⟩
    have ok2 := s2.okc ok1
    have s2h := s2.hid ct cl.1
    obtain ⟨jg, js, jy⟩ := j1 c H2 s2h ok2
    by_cases hlt : i < ys.length
    · have hx : ys[i]? = some ys[i] := List.getElem?_eq_getElem hlt
      have ek : k + n * (ys.length - i) = (k + n * (ys.length - (i + 1))) + n := by
        have : ys.length - i = (ys.length - (i + 1)) + 1 := by omega
        rw [this, Nat.mul_add, Nat.mul_one]
        omega
      refine .inr ⟨jg i hlt, fun σ3 H3 => Sm tin D H1 H3 ∧ BoxAt H3 tin (k + n * (ys.length - (i + 1))) ∧ ∃ zs, CellL K c H3 tin D zs ∧ Pv (i + 1) (hid c H3) σ3 zs, fun σ3 H3 h => ⟨ys.length - (i + 1), by omega, rfl, by omega, h⟩, fun v H3 y => ?_⟩
      obtain ⟨s3, r3⟩ := jy i v H3 _ hx y
      have s03 := (a.trans s1.hid).trans (s2h.trans s3.hid)
      obtain ⟨σ2, eg, en⟩ := step i (hid c H3) v _ σ' zs s03 hx r3 (mono i _ _ _ _ s3.hid p)
      exact eg c H3 (Same.refl _) (ok2.mono s3) _ (en c H3 (k + n * (ys.length - (i + 1))) (Same.refl _) (ok2.mono s3) ct (by rw [← ek]; exact b2.same s3) (c2.sx ct (.of s3)) _ fun σ4 H4 ws s4 b4 c4 n => ⟨(s2.trans (.of (.of s3))).trans s4, b4, ws, c4, n⟩)
    · have e : i = ys.length := by omega
      subst e
      refine .inl ⟨js, q σ' H2 zs ((Sm.of (.of s1)).trans s2) (b2.mono (by omega)) c2 p⟩
/-- a new list, changed for a while -/
theorem enb_cell {te : TE} {i : Nat} {Pv : List α → Prop} {Nn : Hp → L2.St → Prop}
    (h : ∀ c H k, Same F (hid c H) → Okc c H → c tin = true → BoxAt H tin (k + n) → ∀ Q : VK, (∀ p H' xs acc, Pv xs → Sx tin H H' → BoxAt H' tin k → H p = none → c p = false → H' p = some (.lst acc) → Rps K (hid (Sp.more c p) H') acc xs → Q (.ref p) H') → te σ H Q)
    (k : ∀ F' D xs, Same F F' → Pv xs → EvMB K F' tin m D u (σ.set i (some (.ref D))) xs fun F1 σ1 ys => ∀ F2, Same F1 F2 → Rp K F2 (.ref D) ys → Nn F2 σ1) : EvNB F tin (m + n) (tSeq (tAsg te (gName i)) u) σ Nn := fun c H j a ok ct b DD q =>
  h c H (j + m) a ok ct (b.mono (by omega)) _ fun p H1 xs acc pv s1 b1 hp cp e r => by
    have hpt : p ≠ tin := fun z => by rw [z, ct] at cp; cases cp
    have ok1 := s1.okc ok
    have okm : Okc (Sp.more c p) H1 := okc_more ok1 (by rw [e]; exact cel_lst)
    have a1 : Same F (hid (Sp.more c p) H1) := fun b o eb => by
      have hb : b ≠ p := fun z => by
        have := a b o eb
        unfold Sp.hid at this
        rw [z, hp] at this
        split at this <;> cases this
      have := a.trans (s1.hid ct) b o eb
      unfold Sp.hid at this ⊢
      split at this
      · cases this
      · rename_i hc
        rw [if_neg (by simp [Sp.more, hc, hb])]
        exact this
    refine k (hid (Sp.more c p) H1) p xs a1 pv (Sp.more c p) H1 j (Same.refl _) okm (by simp [Sp.more, ct]) b1 ⟨more_self, hpt, acc, e, r⟩ DD fun σ' H2 ys s2 b2 c2 nn => ?_
    have s12 : Sx tin H H2 := ⟨fun b o hb eb => s2.1 b o hb (fun z => by rw [z, hp] at eb; cases eb) (s1.1 b o hb eb), fun b hb => s2.2.1 b (s1.2.1 b hb), fun b hb => s2.2.2 b (s1.2.2 b hb)⟩
    refine q σ' H2 s12 b2 (nn _ hid_less ?_)
    obtain ⟨_, _, acc2, e2, r2⟩ := c2
    exact rp_mkL (.inl (by rw [hid_at cp]; exact e2)) (r2.mono hid_less)
/-- a new list, changed by the first block, then read -/
theorem erb_cell {te : TE} {i : Nat} {n2 : Nat} {Pv : List α → Prop} {Pd : PyData → Prop}
    (h : ∀ c H k, Same F (hid c H) → Okc c H → c tin = true → BoxAt H tin (k + n) → ∀ Q : VK, (∀ p H' xs acc, Pv xs → Sx tin H H' → BoxAt H' tin k → H p = none → c p = false → H' p = some (.lst acc) → Rps K (hid (Sp.more c p) H') acc xs → Q (.ref p) H') → te σ H Q)
    (k : ∀ F' D xs, Same F F' → Pv xs → EvMB K F' tin m D u (σ.set i (some (.ref D))) xs fun F1 σ1 ys => ∀ F2, Same F1 F2 → Rp K F2 (.ref D) ys → EvRB K F2 tin n2 tw σ1 Pd) : EvRB K F tin (n2 + m + n) (tSeq (tAsg te (gName i)) (tSeq u tw)) σ Pd := fun c H j a ok ct b DD q =>
  h c H (j + n2 + m) a ok ct (b.mono (by omega)) _ fun p H1 xs acc pv s1 b1 hp cp e r => by
    have hpt : p ≠ tin := fun z => by rw [z, ct] at cp; cases cp
    have ok1 := s1.okc ok
    have okm : Okc (Sp.more c p) H1 := okc_more ok1 (by rw [e]; exact cel_lst)
    have a1 : Same F (hid (Sp.more c p) H1) := fun b o eb => by
      have hb : b ≠ p := fun z => by
        have := a b o eb
        unfold Sp.hid at this
        rw [z, hp] at this
        split at this <;> cases this
      have := a.trans (s1.hid ct) b o eb
      unfold Sp.hid at this ⊢
      split at this
      · cases this
      · rename_i hc
        rw [if_neg (by simp [Sp.more, hc, hb])]
        exact this
    refine k (hid (Sp.more c p) H1) p xs a1 pv (Sp.more c p) H1 (j + n2) (Same.refl _) okm (by simp [Sp.more, ct]) b1 ⟨more_self, hpt, acc, e, r⟩ { DD with nx := tw DD } fun σ' H2 ys s2 b2 c2 nn => ?_
    have s12 : Sx tin H H2 := ⟨fun b o hb eb => s2.1 b o hb (fun z => by rw [z, hp] at eb; cases eb) (s1.1 b o hb eb), fun b hb => s2.2.1 b (s1.2.1 b hb), fun b hb => s2.2.2 b (s1.2.2 b hb)⟩
    obtain ⟨_, _, acc2, e2, r2⟩ := c2
    exact nn _ hid_less (rp_mkL (.inl (by rw [hid_at cp]; exact e2)) (r2.mono hid_less)) c H2 j (Same.refl _) (s12.okc ok) ct b2 DD fun v H3 d pd s3 b3 r3 => q v H3 d pd (s12.trans s3) b3 r3
/-- list(e) is a new list -/
theorem fresh_listT {Pd : PyData → Prop} {Pv : List α → Prop} (h : EvB K F tin n te σ Pd) (hp : ∀ d, Pd d → ∃ xs : List α, d = Datum.toD (Tup.mk xs) ∧ Pv xs) : ∀ c H k, Same F (hid c H) → Okc c H → c tin = true → BoxAt H tin (k + n) → ∀ Q : VK, (∀ p H' xs acc, Pv xs → Sx tin H H' → BoxAt H' tin k → H p = none → c p = false → H' p = some (.lst acc) → Rps K (hid (Sp.more c p) H') acc xs → Q (.ref p) H') → (tCB (rListX K) (tCons te tNil)) σ H Q := fun c H k a ok ct b Q q =>
  h c H k a ok ct b _ fun v H1 d pd s1 b1 r1 => by
    obtain ⟨xs, rfl, pv⟩ := hp d pd
    obtain ⟨e, vs, rfl, hs, hr⟩ := rp_tup (show Rp K (hid c H1) v (Tup.mk xs) from r1)
    refine ⟨e, vs, rfl, .inr (sqt_le hs), fun l nl => ?_⟩
    have hc := (s1.okc ok).new nl
    have hl : H l = none := by
      cases z : H l with
      | none => rfl
      | some o => exact absurd nl (s1.2.1 l (by rw [z]; exact fun e => nomatch e))
    exact q l _ xs vs pv (s1.trans (.of (same_new nl))) (b1.same (same_new nl)) hl hc (upd_same ..) (hr.mono (hid_more nl (same_new nl)))
/-- [e] is a new list -/
theorem fresh_lst1 {x : α} {Pv : List α → Prop} (h : Ev K F te σ x) (hp : Pv [x]) : ∀ c H k, Same F (hid c H) → Okc c H → c tin = true → BoxAt H tin (k + n) → ∀ Q : VK, (∀ p H' xs acc, Pv xs → Sx tin H H' → BoxAt H' tin k → H p = none → c p = false → H' p = some (.lst acc) → Rps K (hid (Sp.more c p) H') acc xs → Q (.ref p) H') → (tLst (tCons te tNil)) σ H Q := fun c H k a ok ct b Q q =>
  h c H a ok _ fun v H1 s1 r1 => by
    refine ⟨by show 1 ≤ sizeLine; decide, fun l nl => ?_⟩
    have hc := (ok.mono s1).new nl
    have hl : H l = none := by
      cases z : H l with
      | none => rfl
      | some o => rw [s1 _ _ z] at nl; cases nl
    exact q l _ [x] [v] hp (.of (s1.trans (same_new nl))) ((b.same (s1.trans (same_new nl))).mono (by omega)) hl hc (upd_same ..) ((Rps.cons r1 Rps.nil).mono (hid_more nl (same_new nl)))
end
end Sp

set_option Elab.async false
set_option linter.all false
set_option maxRecDepth 100000
set_option maxHeartbeats 2000000
/-! one hidden list that changes in a def that draws nothing; early returns; raw tuples -/
namespace Sp
open PySem PySem.Spec PyProof.Rows L2
open PySem.W (Datum DatumOrd Tup)
section
variable {K : PySem.W.Frag} {F F' : Hp} {D : Addr} {σ : L2.St} {ta tb te : TE} {tt tu : TT} {t u tw : TS} {α β γ δ : Type} [DecidableEq α] [Datum α] [DecidableEq β] [Datum β] [DecidableEq γ] [Datum γ] [DecidableEq δ] [Datum δ]
/-- for x in xs with a return in it -/
theorem er_forR {wi : TI} {g : TG} {tb : TS} {xs : List α} {d : PyData} (hi : EvI K F wi σ xs) (Pv : Nat → Hp → L2.St → Prop) (mono : ∀ i F1 F2 σ, Same F1 F2 → Pv i F1 σ → Pv i F2 σ) (h0 : Pv 0 F σ)
    (step : ∀ (i : Nat) (F' : Hp) (v : V) (x : α) (σ' : L2.St), Same F F' → xs[i]? = some x → Rp K F' v x → Pv i F' σ' → ∃ σ2, EvG F' g v σ' σ2 ∧ (EvN F' tb σ2 (Pv (i + 1)) ∨ EvR K F' tb σ2 d))
    (rest : ∀ F' σ', Same F F' → Pv xs.length F' σ' → EvR K F' u σ' d) : EvR K F (tSeq (tFor wi g tb) u) σ d := fun c H a ok DD q =>
  hi c H a ok _ fun J H1 s1 j1 hz => by
    have ok1 := ok.mono s1
    refine ⟨fun i m σ' H2 => m = xs.length - i ∧ i ≤ xs.length ∧ Same H1 H2 ∧ Pv i (hid c H2) σ', ⟨xs.length, by simp, Nat.zero_le _, Same.refl _, mono 0 _ _ _ (a.trans s1.hid) h0⟩, ?_⟩
    rintro i m σ' H2 ⟨rfl, hil, s2, p⟩
    have ok2 := ok1.mono s2
    obtain ⟨jg, js, jy⟩ := j1 c H2 s2.hid ok2
    by_cases hlt : i < xs.length
    · have hx : xs[i]? = some xs[i] := List.getElem?_eq_getElem hlt
      refine .inr ⟨jg i hlt, fun σ3 H3 => Same H1 H3 ∧ Pv (i + 1) (hid c H3) σ3, fun σ3 H3 h => ⟨xs.length - (i + 1), by omega, rfl, by omega, h⟩, fun v H3 y => ?_⟩
      obtain ⟨s3, r3⟩ := jy i v H3 _ hx y
      have s03 := (a.trans s1.hid).trans (s2.hid.trans s3.hid)
      obtain ⟨σ2, eg, en⟩ := step i (hid c H3) v _ σ' s03 hx r3 (mono i _ _ _ s3.hid p)
      rcases en with en | en
      · exact eg c H3 (Same.refl _) (ok2.mono s3) _ (en c H3 (Same.refl _) (ok2.mono s3) _ fun σ4 H4 s4 n => ⟨(s2.trans s3).trans s4, n⟩)
      · exact eg c H3 (Same.refl _) (ok2.mono s3) _ (en c H3 (Same.refl _) (ok2.mono s3) _ fun w H4 s4 r4 => q w H4 (s1.trans ((s2.trans s3).trans s4)) r4)
    · have e : i = xs.length := by omega
      subst e
      exact .inl ⟨js, rest (hid c H2) σ' ((a.trans s1.hid).trans s2.hid) p c H2 (Same.refl _) ok2 DD fun w H3 s3 r3 => q w H3 ((s1.trans s2).trans s3) r3⟩
/-- for x in xs, as a block -/
theorem en_for {wi : TI} {g : TG} {tb : TS} {xs : List α} (hi : EvI K F wi σ xs) (Pv : Nat → Hp → L2.St → Prop) (mono : ∀ i F1 F2 σ, Same F1 F2 → Pv i F1 σ → Pv i F2 σ) (h0 : Pv 0 F σ)
    (step : ∀ (i : Nat) (F' : Hp) (v : V) (x : α) (σ' : L2.St), Same F F' → xs[i]? = some x → Rp K F' v x → Pv i F' σ' → ∃ σ2, EvG F' g v σ' σ2 ∧ EvN F' tb σ2 (Pv (i + 1))) : EvN F (tFor wi g tb) σ (Pv xs.length) := fun c H a ok DD q =>
  hi c H a ok _ fun J H1 s1 j1 hz => by
    have ok1 := ok.mono s1
    refine ⟨fun i m σ' H2 => m = xs.length - i ∧ i ≤ xs.length ∧ Same H1 H2 ∧ Pv i (hid c H2) σ', ⟨xs.length, by simp, Nat.zero_le _, Same.refl _, mono 0 _ _ _ (a.trans s1.hid) h0⟩, ?_⟩
    rintro i m σ' H2 ⟨rfl, hil, s2, p⟩
    have ok2 := ok1.mono s2
    obtain ⟨jg, js, jy⟩ := j1 c H2 s2.hid ok2
    by_cases hlt : i < xs.length
    · have hx : xs[i]? = some xs[i] := List.getElem?_eq_getElem hlt
      refine .inr ⟨jg i hlt, fun σ3 H3 => Same H1 H3 ∧ Pv (i + 1) (hid c H3) σ3, fun σ3 H3 h => ⟨xs.length - (i + 1), by omega, rfl, by omega, h⟩, fun v H3 y => ?_⟩
      obtain ⟨s3, r3⟩ := jy i v H3 _ hx y
      have s03 := (a.trans s1.hid).trans (s2.hid.trans s3.hid)
      obtain ⟨σ2, eg, en⟩ := step i (hid c H3) v _ σ' s03 hx r3 (mono i _ _ _ s3.hid p)
      exact eg c H3 (Same.refl _) (ok2.mono s3) _ (en c H3 (Same.refl _) (ok2.mono s3) _ fun σ4 H4 s4 n => ⟨(s2.trans s3).trans s4, n⟩)
    · have e : i = xs.length := by omega
      subst e
      exact .inl ⟨js, q σ' H2 (s1.trans s2) p⟩
theorem er_seqN {M : Hp → L2.St → Prop} {d : PyData} (h : EvN F t σ M) (k : ∀ F' σ', Same F F' → M F' σ' → EvR K F' u σ' d) : EvR K F (tSeq t u) σ d := fun c H a ok DD q =>
  h c H a ok { DD with nx := u DD } fun σ' H1 s1 m => k (hid c H1) σ' (a.trans s1.hid) m c H1 (Same.refl _) (ok.mono s1) DD fun w H2 s2 r2 => q w H2 (s1.trans s2) r2
theorem en_par {x : α} {y : β} {i j : Nat} {N : Hp → L2.St → Prop} (ha : Ev K F ta σ x) (hb : Ev K F tb σ y) (k : ∀ F' v w, Same F F' → Rp K F' v x → Rp K F' w y → N F' ((σ.set i (some v)).set j (some w))) : EvN F (tPar i j (tCons ta (tCons tb tNil))) σ N := fun c H a ok DD q =>
  ha c H a ok _ fun v H1 s1 r1 => hb c H1 (a.trans s1.hid) (ok.mono s1) _ fun w H2 s2 r2 => ⟨v, w, rfl, q _ H2 (s1.trans s2) (k _ v w ((a.trans s1.hid).trans s2.hid) (r1.mono s2.hid) r2)⟩
theorem EvN.imp {N M : Hp → L2.St → Prop} (h : EvN F t σ N) (i : ∀ F' σ', Same F F' → N F' σ' → M F' σ') : EvN F t σ M := fun c H a ok DD q => h c H a ok DD fun σ' H' s n => q σ' H' s (i _ _ (a.trans s.hid) n)
theorem en_setD {x : PyData} {i : Nat} {N : Hp → L2.St → Prop} (h : EvD K F te σ x) (k : ∀ F' v, Same F F' → Dq K F' v x → N F' (σ.set i (some v))) : EvN F (tAsg te (gName i)) σ N := fun c H a ok DD q =>
  h c H a ok _ fun v H1 s1 r1 => q _ H1 s1 (k _ v (a.trans s1.hid) r1)
theorem en_asgD {x : PyData} {g : TG} {N : Hp → L2.St → Prop} (h : EvD K F te σ x) (k : ∀ F' v, Same F F' → Dq K F' v x → ∃ σ2, EvG F' g v σ σ2 ∧ N F' σ2) : EvN F (tAsg te g) σ N := fun c H a ok DD q =>
  h c H a ok _ fun v H1 s1 r1 => by
    obtain ⟨σ2, eg, n⟩ := k _ v (a.trans s1.hid) r1
    exact eg c H1 (Same.refl _) (ok.mono s1) _ (q σ2 H1 s1 n)
theorem er_asgD {x : PyData} {g : TG} {d : PyData} (h : EvD K F te σ x) (k : ∀ F' v, Same F F' → Dq K F' v x → ∃ σ2, EvG F' g v σ σ2 ∧ EvR K F' u σ2 d) : EvR K F (tSeq (tAsg te g) u) σ d := fun c H a ok DD q =>
  h c H a ok _ fun v H1 s1 r1 => by
    obtain ⟨σ2, eg, n⟩ := k _ v (a.trans s1.hid) r1
    exact eg c H1 (Same.refl _) (ok.mono s1) _ (n c H1 (Same.refl _) (ok.mono s1) DD fun w H2 s2 r2 => q w H2 (s1.trans s2) r2)
theorem ev_notN {d : PyData} (ha : EvD K F ta σ d) : Ev K F (tNotN ta) σ (!d.isNoneType) := fun c H a ok Q q =>
  ha c H a ok _ fun v H1 s1 r1 => by
    have e : decide (v = .non) = d.isNoneType := by
      cases r1 <;> rfl
    rw [e]
    exact q _ H1 s1 rp_mkB
/-! ### the hidden list -/
def CellP (K : PySem.W.Frag) (c : Addr → Bool) (H : Hp) (D : Addr) (xs : List α) : Prop := c D = true ∧ ∃ acc, H D = some (.lst acc) ∧ Rps K (hid c H) acc xs
theorem CellP.same {c : Addr → Bool} {H H' : Hp} {xs : List α} (s : Same H H') (h : CellP K c H D xs) : CellP K c H' D xs := by
  obtain ⟨a, acc, e, r⟩ := h
  exact ⟨a, acc, s _ _ e, r.mono s.hid⟩
theorem CellP.thaw {c : Addr → Bool} {H : Hp} {xs : List α} (h : CellP K c H D xs) : Rp K (hid (less1 c D) H) (.ref D) xs := by
  obtain ⟨a, acc, e, r⟩ := h
  exact rp_mkL (.inl (by rw [hid_at less1_self]; exact e)) (r.mono hid_less1)
def EvL (K : PySem.W.Frag) (F : Hp) (D : Addr) (t : TS) (σ : L2.St) (xs : List α) (N : Hp → L2.St → List α → Prop) : Prop := ∀ c H, Same F (hid c H) → Okc c H → CellP K c H D xs → ∀ DD : Ends,
  (∀ σ' H' ys, Sx D H H' → CellP K c H' D ys → N (hid c H') σ' ys → DD.nx σ' H') → t DD σ H
def EvLR (K : PySem.W.Frag) (F : Hp) (D : Addr) (t : TS) (σ : L2.St) (xs : List α) (d : PyData) : Prop := ∀ c H, Same F (hid c H) → Okc c H → CellP K c H D xs → ∀ DD : Ends,
  (∀ v H', Sx D H H' → Dq K (hid (less1 c D) H') v d → DD.rt v H') → t DD σ H
variable {xs : List α} {N : Hp → L2.St → List α → Prop} {d : PyData}
theorem el_next (h : ∀ F', Same F F' → N F' σ xs) : EvL K F D tNext σ xs N := fun c H a ok cl DD q => q σ H xs .refl cl (h _ a)
theorem el_of (h : EvN F t σ fun F' σ' => N F' σ' xs) : EvL K F D t σ xs N := fun c H a ok cl DD q =>
  h c H a ok DD fun σ' H' s p => q σ' H' xs (.of s) (cl.same s) p
theorem el_seq {M : Hp → L2.St → List α → Prop} (h : EvL K F D t σ xs M) (k : ∀ F' σ' ys, Same F F' → M F' σ' ys → EvL K F' D u σ' ys N) : EvL K F D (tSeq t u) σ xs N := fun c H a ok cl DD q =>
  h c H a ok cl { DD with nx := u DD } fun σ' H1 ys s1 c1 m => k (hid c H1) σ' ys (a.trans (s1.hid cl.1)) m c H1 (Same.refl _) (s1.okc ok) c1 DD fun σ2 H2 zs s2 c2 n => q σ2 H2 zs (s1.trans s2) c2 n
theorem elr_seq {M : Hp → L2.St → List α → Prop} (h : EvL K F D t σ xs M) (k : ∀ F' σ' ys, Same F F' → M F' σ' ys → EvLR K F' D u σ' ys d) : EvLR K F D (tSeq t u) σ xs d := fun c H a ok cl DD q =>
  h c H a ok cl { DD with nx := u DD } fun σ' H1 ys s1 c1 m => k (hid c H1) σ' ys (a.trans (s1.hid cl.1)) m c H1 (Same.refl _) (s1.okc ok) c1 DD fun w H2 s2 r2 => q w H2 (s1.trans s2) r2
theorem elr_thaw (h : ∀ F', Same F F' → Rp K F' (.ref D) xs → EvR K F' t σ d) : EvLR K F D t σ xs d := fun c H a ok cl DD q =>
  h _ (a.trans hid_less1) cl.thaw (less1 c D) H (Same.refl _) (okc_less1 ok) DD fun w H' s r => q w H' (.of s) r
theorem el_if {b : Bool} {s1 s2 : TS} (h : EvT F tt σ b) (k1 : b = true → EvL K F D s1 σ xs N) (k2 : b = false → EvL K F D s2 σ xs N) : EvL K F D (tIfS tt s1 s2) σ xs N := fun c H a ok cl DD q =>
  h c H a ok _ fun H1 t1 => by
    cases b with
    | true => exact k1 rfl c H1 (a.trans t1.hid) (ok.mono t1) (cl.same t1) DD fun w H2 ys t2 c2 r2 => q w H2 ys ((Sx.of t1).trans t2) c2 r2
    | false => exact k2 rfl c H1 (a.trans t1.hid) (ok.mono t1) (cl.same t1) DD fun w H2 ys t2 c2 r2 => q w H2 ys ((Sx.of t1).trans t2) c2 r2
theorem el_append {i : Nat} {y : α} (hi : σ[i]? = some (some (.ref D))) (h : Ev K F te σ y) (hl : xs.length < sizeLine)
    (k : ∀ F', Same F F' → N F' σ (xs ++ [y])) : EvL K F D (tDrop (tBM K "list" rAppend (tVar i) (tCons te tNil))) σ xs N := fun c H a ok cl DD q => by
  obtain ⟨cD, acc, e, r⟩ := cl
  refine ⟨.ref D, hi, .inl ⟨rfl, acc, .inl (.inl e)⟩, ?_⟩
  refine h c H a ok _ fun w H1 s1 r1 => ?_
  have hal := r.length
  have hu : Same (hid c H1) (hid c (upd H1 D (.lst (acc ++ [w])))) := hid_upd cD
  refine ⟨D, acc, w, rfl, rfl, s1 _ _ e, by omega, ?_⟩
  exact q σ _ (xs ++ [y]) ((Sx.of s1).trans .upd) ⟨cD, _, upd_same .., ((r.mono s1.hid).append (.cons r1 .nil)).mono hu⟩ (k _ (a.trans (s1.hid.trans hu)))
/-- xs[k] = e -/
theorem el_put {i : Nat} {y : α} {k : Nat} (hi : σ[i]? = some (some (.ref D))) (h : Ev K F te σ y) (hk : Ev K F tb σ (k : Int)) (hl : k < xs.length)
    (n : ∀ F', Same F F' → N F' σ (xs.set k y)) : EvL K F D (tAsg te (gSub (tVar i) tb rSetL)) σ xs N := fun c H a ok cl DD q => by
  obtain ⟨cD, acc, e, r⟩ := cl
  refine h c H a ok _ fun w H1 s1 r1 => ?_
  refine ⟨.ref D, hi, ?_⟩
  refine hk c H1 (a.trans s1.hid) (ok.mono s1) _ fun z H2 s2 r2 => ?_
  have ez := rp_int r2
  subst ez
  have hal := r.length
  have hu : Same (hid c H2) (hid c (upd H2 D (.lst (acc.set k w)))) := hid_upd cD
  refine ⟨D, acc, k, k, rfl, rfl, s2 _ _ (s1 _ _ e), ?_, ?_⟩
  · unfold ixN
    rw [if_pos (by omega), if_pos (by omega)]
    simp
  exact q σ _ (xs.set k y) ((Sx.of (s1.trans s2)).trans .upd) ⟨cD, _, upd_same .., (Rps.set k (r1.mono s2.hid) ((r.mono s1.hid).mono s2.hid)).mono hu⟩ (n _ (a.trans ((s1.trans s2).hid.trans hu)))
theorem el_for {wi : TI} {g : TG} {tb : TS} {ys : List β} (hi : EvI K F wi σ ys) (Pv : Nat → Hp → L2.St → List α → Prop) (mono : ∀ i F1 F2 σ xs, Same F1 F2 → Pv i F1 σ xs → Pv i F2 σ xs) (h0 : Pv 0 F σ xs)
    (step : ∀ (i : Nat) (F' : Hp) (v : V) (y : β) (σ' : L2.St) (xs' : List α), Same F F' → ys[i]? = some y → Rp K F' v y → Pv i F' σ' xs' → ∃ σ2, EvG F' g v σ' σ2 ∧ EvL K F' D tb σ2 xs' (Pv (i + 1))) :
    EvL K F D (tFor wi g tb) σ xs (Pv ys.length) := fun c H a ok cl DD q =>
  hi c H a ok _ fun J H1 s1 j1 hz => by
    have ok1 := ok.mono s1
    refine ⟨fun i m σ' H2 => m = ys.length - i ∧ i ≤ ys.length ∧ Sx D H1 H2 ∧ ∃ zs, CellP K c H2 D zs ∧ Pv i (hid c H2) σ' zs, ⟨ys.length, by simp, Nat.zero_le _, .refl, xs, cl.same s1, mono 0 _ _ _ _ (a.trans s1.hid) h0⟩, ?_⟩
    rintro i m σ' H2 ⟨rfl, hil, s2, zs, c2, p⟩
    have ok2 := s2.okc ok1
    have s2h := s2.hid cl.1
    obtain ⟨jg, js, jy⟩ := j1 c H2 s2h ok2
    by_cases hlt : i < ys.length
    · have hx : ys[i]? = some ys[i] := List.getElem?_eq_getElem hlt
      refine .inr ⟨jg i hlt, fun σ3 H3 => Sx D H1 H3 ∧ ∃ zs, CellP K c H3 D zs ∧ Pv (i + 1) (hid c H3) σ3 zs, fun σ3 H3 h => ⟨ys.length - (i + 1), by omega, rfl, by omega, h⟩, fun v H3 y => ?_⟩
      obtain ⟨s3, r3⟩ := jy i v H3 _ hx y
      have s03 := (a.trans s1.hid).trans (s2h.trans s3.hid)
      obtain ⟨σ2, eg, en⟩ := step i (hid c H3) v _ σ' zs s03 hx r3 (mono i _ _ _ _ s3.hid p)
      exact eg c H3 (Same.refl _) (ok2.mono s3) _ (en c H3 (Same.refl _) (ok2.mono s3) (c2.same s3) _ fun σ4 H4 ws s4 c4 n => ⟨(s2.trans (.of s3)).trans s4, ws, c4, n⟩)
    · have e : i = ys.length := by omega
      subst e
      exact .inl ⟨js, q σ' H2 zs ((Sx.of s1).trans s2) c2 p⟩
/-- an expression that gives a new list -/
def FreshL (K : PySem.W.Frag) (F : Hp) (te : TE) (σ : L2.St) (xs : List α) : Prop := ∀ c H, Same F (hid c H) → Okc c H → ∀ Q : VK, (∀ p H' acc, Same H H' → H p = none → H' p = some (.lst acc) → Rps K (hid (more c p) H') acc xs → Q (.ref p) H') → te σ H Q
theorem fresh_nil : FreshL K F (tLst tNil) σ ([] : List α) := fun c H a ok Q q => ⟨Nat.zero_le _, fun p np => q p _ [] (same_new np) np (upd_same ..) Rps.nil⟩
theorem none_back {H H' : Hp} {p : Addr} (s : Same H H') (n : H' p = none) : H p = none := by
  cases z : H p with
  | none => rfl
  | some o => rw [s _ _ z] at n; cases n
theorem fresh_cat {x y : List α} (ha : Ev K F ta σ x) (hb : Ev K F tb σ y) (hz : x.length + y.length ≤ sizeLine) : FreshL K F (tOp rCatL ta tb) σ (x ++ y) := fun c H a ok Q q =>
  ha c H a ok _ fun v H1 s1 r1 => hb c H1 (a.trans s1.hid) (ok.mono s1) _ fun w H2 s2 r2 => by
    obtain ⟨p, vs, rfl, hs, hr⟩ := rp_lst (r1.mono s2.hid)
    obtain ⟨p2, vs2, rfl, hs2, hr2⟩ := rp_lst r2
    refine ⟨p, p2, vs, vs2, rfl, rfl, rd_le hs, rd_le hs2, by rw [hr.length, hr2.length]; exact hz, fun l nl => ?_⟩
    exact q l _ _ ((s1.trans s2).trans (same_new nl)) (none_back (s1.trans s2) nl) (upd_same ..) ((hr.append hr2).mono (hid_more nl (same_new nl)))
theorem rep_flat {α : Type} (x : α) (k : Nat) : (List.replicate k [x]).flatten = List.replicate k x := by
  induction k with
  | zero => rfl
  | succ k ih => rw [List.replicate_succ, List.flatten_cons, ih, List.replicate_succ]; rfl
theorem rps_rep {F : Hp} {v : V} {x : α} (r : Rp K F v x) (k : Nat) : Rps K F (List.replicate k v) (List.replicate k x) := by
  induction k with
  | zero => exact Rps.nil
  | succ k ih => exact Rps.cons r ih
/-- [x] * k -/
theorem fresh_rep {x : α} {k : Int} (ha : Ev K F ta σ x) (hb : Ev K F tb σ k) (hk : 0 ≤ k ∧ k ≤ 100000) : FreshL K F (tOp rRep (tLst (tCons ta tNil)) tb) σ (List.replicate k.toNat x) := fun c H a ok Q q =>
  ha c H a ok _ fun v H1 s1 r1 => ⟨by show 1 ≤ sizeLine; decide, fun l nl => hb c _ (a.trans (s1.trans (same_new nl)).hid) (ok.mono (s1.trans (same_new nl))) _ fun w H2 s2 r2 =>
    ⟨l, k, [v], rfl, rp_int r2, s2 _ _ (upd_same ..), by omega, by omega, by
      have : [v].length * k.toNat = k.toNat := by simp
      rw [this]
      unfold sizeLine
      omega, fun p np => by
      have s02 := (s1.trans (same_new (o := .lst [v]) nl)).trans s2
      exact q p _ _ (s02.trans (same_new np)) (none_back s02 np) (upd_same ..) (by
        rw [rep_flat]
        exact rps_rep (r1.mono (((same_new (o := .lst [v]) nl).trans s2).hid.trans (hid_more np (same_new np)))) _)⟩⟩
theorem FreshL.ev (h : FreshL K F te σ xs) : Ev K F te σ xs := fun c H a ok Q q => h c H a ok _ fun p H' acc s n e r =>
  q _ H' s (rp_mkL (.inl (by rw [hid_at (ok.new n)]; exact e)) (r.mono hid_less))
theorem ev_rep {x : α} {k : Int} (ha : Ev K F ta σ x) (hb : Ev K F tb σ k) (hk : 0 ≤ k ∧ k ≤ 100000) : Ev K F (tOp rRep (tLst (tCons ta tNil)) tb) σ (List.replicate k.toNat x) := (fresh_rep ha hb hk).ev
theorem less_more {c : Addr → Bool} {D : Addr} (h : c D = false) : less1 (more c D) D = c := by
  funext b
  by_cases e : b = D
  · rw [e, less1_self, h]
  · have : (b == D) = false := by simpa using e
    simp [less1, more, this]
theorem sx_same {H H1 H' : Hp} (n : H D = none) (s : Same H H1) (x : Sx D H1 H') : Same H H' := fun b o e => x.1 b o (ne_of_none e n) (s b o e)
theorem er_cell {i : Nat} (h : FreshL K F te σ xs) (k : ∀ D F', Same F F' → EvLR K F' D u (σ.set i (some (.ref D))) xs d) : EvR K F (tSeq (tAsg te (gName i)) u) σ d := fun c H a ok DD q =>
  h c H a ok _ fun D H1 acc s n e r => by
    have hc := ok.new n
    have ok1 : Okc (more c D) H1 := okc_more (ok.mono s) (by rw [e]; exact cel_lst)
    refine k D _ (a.trans (hid_more n s)) (more c D) H1 (Same.refl _) ok1 ⟨more_self, acc, e, r⟩ DD fun w H2 s2 r2 => ?_
    rw [less_more hc] at r2
    exact q w H2 (sx_same n s s2) r2
theorem er_cellP {i j : Nat} {x : β} (ha : Ev K F ta σ x) (h : FreshL K F te σ xs) (k : ∀ D F' v, Same F F' → Rp K F' v x → EvLR K F' D u ((σ.set i (some v)).set j (some (.ref D))) xs d) : EvR K F (tSeq (tPar i j (tCons ta (tCons te tNil))) u) σ d := fun c H a ok DD q =>
  ha c H a ok _ fun v H0 s0 r0 => h c H0 (a.trans s0.hid) (ok.mono s0) _ fun D H1 acc s n e r => ⟨v, .ref D, rfl, by
    have ok0 := ok.mono s0
    have hc := ok0.new n
    have ok1 : Okc (more c D) H1 := okc_more (ok0.mono s) (by rw [e]; exact cel_lst)
    refine k D _ v ((a.trans s0.hid).trans (hid_more n s)) (r0.mono (hid_more n s)) (more c D) H1 (Same.refl _) ok1 ⟨more_self, acc, e, r⟩ DD fun w H2 s2 r2 => ?_
    rw [less_more hc] at r2
    exact q w H2 (s0.trans (sx_same n s s2)) r2⟩
/-! ### raw tuples -/
theorem dq_tup {v : V} {ds : List PyData} (h : Dq K F v (.tuple ds)) : ∃ a vs, v = .ref a ∧ SqT K F a vs ∧ DqAll K F vs ds := by
  cases h with
  | tup hs ha => exact ⟨_, _, rfl, .inl (.inl hs), ha⟩
theorem evd_ixT {ds : List PyData} {k : Nat} {y : PyData} (ha : EvD K F ta σ (.tuple ds)) (hb : Ev K F tb σ (k : Int)) (h : ds[k]? = some y) : EvD K F (tOp (rIx K) ta tb) σ y := fun c H a ok Q q =>
  ha c H a ok _ fun v H1 s1 r1 => hb c H1 (a.trans s1.hid) (ok.mono s1) _ fun w H2 s2 r2 => by
    obtain ⟨p, vs, rfl, hs, hr⟩ := dq_tup (r1.mono s2.hid)
    obtain ⟨z, hz, rz⟩ := DqAll.get hr h
    exact .inr (.inl ⟨p, vs, (k : Int), z, rfl, rp_int r2, sqt_le hs, atI_nat hz, q _ H2 (s1.trans s2) rz⟩)
theorem lcb_three {P : L2.St → Prop} {v : V} {x y z : PyData} {i j k : Nat} (r : Dq K F v (.tuple [x, y, z])) (h : ∀ v1 v2 v3, Dq K F v1 x → Dq K F v2 y → Dq K F v3 z → P (((σ.set i (some v1)).set j (some v2)).set k (some v3))) : ∃ σ2, EvG F (gTup K 3 (gCons (gName i) (gCons (gName j) (gCons (gName k) gNil)))) v σ σ2 ∧ P σ2 := by
  obtain ⟨a, vs, rfl, hs, hr⟩ := dq_tup r
  obtain ⟨v1, v2, v3, rfl, r1, r2, r3⟩ := dq3 hr
  refine ⟨_, fun c H s ok Q q => ⟨a, [v1, v2, v3], rfl, sqt_le (Evl.ex_t s hs), rfl, ?_⟩, h v1 v2 v3 r1 r2 r3⟩
  exact ⟨_, _, rfl, _, _, rfl, _, _, rfl, rfl, q⟩
theorem evd_dT {ts : TA} {ds : List PyData} (h : EvA K F ts σ ds) (hz : ds.length ≤ sizeLine) : EvD K F (tTup ts) σ (.tuple ds) := fun c H a ok Q q =>
  h c H a ok _ fun vs H1 s1 r1 => ⟨by rw [DqAll.length r1]; exact hz, fun p np => q _ _ (s1.trans (same_new np)) (.tup (sqt_new (ok.mono s1) np) (dpAll_mono (same_new np).hid _ _ r1))⟩
end
theorem atI_last1 {α : Type} {xs : List α} {n : Nat} {y : α} (hn : xs.length = n + 1) (h : xs[n]? = some y) : atI xs (-1) = some y := by
  have hne : xs ≠ [] := fun e => by rw [e] at hn; cases hn
  have e := List.dropLast_concat_getLast hne
  have e2 := List.getLast_eq_getElem hne
  rw [← e, atI_last, e2, ← h, List.getElem?_eq_getElem (by omega)]
  congr 1
  congr 1
  omega
theorem cutL_take {α : Type} {xs : List α} (k : Nat) : cutL xs none (some (k : Int)) = xs.take k := by
  unfold cutL
  rw [show HT.sIx xs.length xs.length (some (k : Int)) = min k xs.length from HT.sIx_nat _ _ _, HT.sIx_none]
  simp
theorem cutL_drop {α : Type} {xs : List α} (k : Nat) : cutL xs (some (k : Int)) none = xs.drop k := by
  unfold cutL
  rw [show HT.sIx xs.length 0 (some (k : Int)) = min k xs.length from HT.sIx_nat _ _ _, HT.sIx_none]
  by_cases h : k ≤ xs.length
  · rw [Nat.min_eq_left h, List.take_of_length_le (by rw [List.length_drop]; omega)]
  · rw [Nat.min_eq_right (by omega), Nat.sub_self, List.drop_eq_nil_of_le (show xs.length ≤ k by omega)]
    simp
theorem cutL_mid {α : Type} {xs : List α} (k l : Nat) (h : l ≤ xs.length) : cutL xs (some (k : Int)) (some (l : Int)) = (xs.drop k).take (l - k) := by
  unfold cutL
  rw [show HT.sIx xs.length 0 (some (k : Int)) = min k xs.length from HT.sIx_nat _ _ _, show HT.sIx xs.length xs.length (some (l : Int)) = min l xs.length from HT.sIx_nat _ _ _, Nat.min_eq_left h]
  by_cases hk : k ≤ xs.length
  · rw [Nat.min_eq_left hk]
  · rw [Nat.min_eq_right (by omega), List.drop_eq_nil_of_le (show xs.length ≤ k by omega), List.drop_eq_nil_of_le (Nat.le_refl _)]
    simp
end Sp
namespace Sp
open PySem PySem.Spec PyProof.Rows L2
open PySem.W (Datum DatumOrd Tup)
section
variable {K : PySem.W.Frag} {F F' : Hp} {D : Addr} {σ : L2.St} {ta tb te : TE} {tt tu : TT} {t u tw : TS} {α β γ δ : Type} [DecidableEq α] [Datum α] [DecidableEq β] [Datum β] [DecidableEq γ] [Datum γ] [DecidableEq δ] [Datum δ]
theorem er_cellT {i j : Nat} {x : β} {xs : List α} {d : PyData} (ha : Ev K F ta σ x) (h : FreshL K F te σ xs) (k : ∀ D F' v, Same F F' → Rp K F' v x → EvLR K F' D u ((σ.set i (some v)).set j (some (.ref D))) xs d) : EvR K F (tSeq (tAsg (tTup (tCons ta (tCons te tNil))) (gTup K 2 (gCons (gName i) (gCons (gName j) gNil)))) u) σ d := fun c H a ok DD q =>
  ha c H a ok _ fun v H0 s0 r0 => h c H0 (a.trans s0.hid) (ok.mono s0) _ fun D H1 acc s n e r => ⟨by show 2 ≤ sizeLine; decide, fun p np => by
    refine ⟨p, [v, .ref D], rfl, .inl (.inl (upd_same ..)), rfl, _, _, rfl, _, _, rfl, rfl, ?_⟩
    have ok0 := ok.mono s0
    have hc := ok0.new n
    have s2 : Same H1 (upd H1 p (.tup [v, .ref D])) := same_new np
    have e2 := s2 _ _ e
    have ok1 : Okc (more c D) (upd H1 p (.tup [v, .ref D])) := okc_more (ok0.mono (s.trans s2)) (by rw [e2]; exact cel_lst)
    refine k D _ v ((a.trans s0.hid).trans (hid_more n (s.trans s2))) (r0.mono (hid_more n (s.trans s2))) (more c D) _ (Same.refl _) ok1 ⟨more_self, acc, e2, r.mono s2.hid⟩ DD fun w H2 s3 r2 => ?_
    rw [less_more hc] at r2
    exact q w H2 (s0.trans (sx_same n (s.trans s2) s3)) r2⟩
theorem lcb_twoX {P : L2.St → Prop} {v : V} {x : α × β} {i j : Nat} (r : Rp K F v x) (h : ∀ v1 v2, Rp K F v1 x.1 → Rp K F v2 x.2 → P ((σ.set i (some v1)).set j (some v2))) : ∃ σ2, EvG F (gTup K 2 (gCons (gName i) (gCons (gName j) gNil))) v σ σ2 ∧ P σ2 := lcb_two r h
end
theorem nthE {α : Type} [Inhabited α] (xs : List α) (i : Nat) : nth xs (i : Int) = xs.getD i default := by
  unfold nth
  rw [List.getD_eq_getElem?_getD, Int.toNat_natCast]
theorem enum_at {α : Type} {xs : List α} {i : Nat} {k : Int} {x d : α} (h : ((rangeL 0 (xs.length : Int)).zip xs)[i]? = some (k, x)) : i < xs.length ∧ k = (i : Int) ∧ x = xs.getD i d := by
  rw [List.getElem?_zip_eq_some] at h
  obtain ⟨h1, h2⟩ := h
  have hi := (List.getElem?_eq_some_iff.mp h2).1
  rw [rangeL_get (by omega)] at h1
  have h1 := Option.some.inj h1
  refine ⟨hi, by omega, ?_⟩
  rw [List.getD_eq_getElem?_getD, h2]
  rfl
theorem enum_len {α : Type} {xs : List α} : ((rangeL 0 (xs.length : Int)).zip xs).length = xs.length := by
  rw [List.length_zip, rangeL_len]
  omega
theorem range_map {α : Type} (n : Nat) (f : Int → α) : (rangeL 0 (n : Int)).map f = (List.range n).map fun (k : Nat) => f (k : Int) := by
  unfold rangeL
  rw [List.map_map, show ((n : Int) - 0).toNat = n by omega]
  refine List.map_congr_left fun k _ => ?_
  simp
theorem enum_map {α β : Type} {xs : List α} {f : Int × α → β} {d : α} : ((rangeL 0 (xs.length : Int)).zip xs).map f = (List.range xs.length).map fun (k : Nat) => f ((k : Int), xs.getD k d) := by
  apply List.ext_getElem?
  intro i
  rw [List.getElem?_map, List.getElem?_map]
  by_cases h : i < xs.length
  · rw [List.getElem?_range h]
    obtain ⟨⟨k, x⟩, e⟩ : ∃ z, ((rangeL 0 (xs.length : Int)).zip xs)[i]? = some z := ⟨_, List.getElem?_eq_getElem (by rw [enum_len]; exact h)⟩
    obtain ⟨_, rfl, rfl⟩ := enum_at (d := d) e
    rw [e]
    rfl
  · rw [List.getElem?_eq_none (by rw [enum_len]; omega), List.getElem?_eq_none (by simp; omega)]
    rfl
theorem map_take_succ {β : Type} {n i : Nat} {f : Nat → β} (h : i < n) : ((List.range n).map f).take (i + 1) = ((List.range n).map f).take i ++ [f i] := by
  rw [List.take_add_one, List.getElem?_map, List.getElem?_range h]
  rfl
end Sp
namespace Sp
open PySem PySem.Spec PyProof.Rows L2
open PySem.W (Datum DatumOrd Tup)
section
variable {K : PySem.W.Frag} {F F' : Hp} {D : Addr} {σ : L2.St} {ta tb te : TE} {tt tu : TT} {t u tw : TS} {α β γ δ : Type} [DecidableEq α] [Datum α] [DecidableEq β] [Datum β] [DecidableEq γ] [Datum γ] [DecidableEq δ] [Datum δ]
theorem dq4 {vs : List V} {d0 d1 d2 d3 : PyData} (h : DqAll K F vs [d0, d1, d2, d3]) : ∃ v0 v1 v2 v3, vs = [v0, v1, v2, v3] ∧ Dq K F v0 d0 ∧ Dq K F v1 d1 ∧ Dq K F v2 d2 ∧ Dq K F v3 d3 := by
  cases h with
  | cons h0 h =>
    obtain ⟨a, b, c, rfl, r⟩ := dq3 h
    exact ⟨_, a, b, c, rfl, h0, r⟩
theorem dq5 {vs : List V} {d0 d1 d2 d3 d4 : PyData} (h : DqAll K F vs [d0, d1, d2, d3, d4]) : ∃ v0 v1 v2 v3 v4, vs = [v0, v1, v2, v3, v4] ∧ Dq K F v0 d0 ∧ Dq K F v1 d1 ∧ Dq K F v2 d2 ∧ Dq K F v3 d3 ∧ Dq K F v4 d4 := by
  cases h with
  | cons h0 h =>
    obtain ⟨a, b, c, e, rfl, r⟩ := dq4 h
    exact ⟨_, a, b, c, e, rfl, h0, r⟩
variable {xs : List α} {N : Hp → L2.St → List α → Prop} {M : Hp → L2.St → Prop} {d : PyData}
theorem el_set {x : β} {i : Nat} (h : Ev K F te σ x) (k : ∀ F' v, Same F F' → Rp K F' v x → EvL K F' D u (σ.set i (some v)) xs N) : EvL K F D (tSeq (tAsg te (gName i)) u) σ xs N := fun c H a ok cl DD q =>
  h c H a ok _ fun v H1 s1 r1 => k (hid c H1) v (a.trans s1.hid) r1 c H1 (Same.refl _) (ok.mono s1) (cl.same s1) DD fun w H2 ys s2 c2 n => q w H2 ys ((Sx.of s1).trans s2) c2 n
theorem elr_set {x : β} {i : Nat} (h : Ev K F te σ x) (k : ∀ F' v, Same F F' → Rp K F' v x → EvLR K F' D u (σ.set i (some v)) xs d) : EvLR K F D (tSeq (tAsg te (gName i)) u) σ xs d := fun c H a ok cl DD q =>
  h c H a ok _ fun v H1 s1 r1 => k (hid c H1) v (a.trans s1.hid) r1 c H1 (Same.refl _) (ok.mono s1) (cl.same s1) DD fun w H2 s2 r2 => q w H2 ((Sx.of s1).trans s2) r2
theorem enk_setP {x : β} {i : Nat} (h : Ev K F te σ x) (k : ∀ F' v, Same F F' → Rp K F' v x → EvN F' u (σ.set i (some v)) M) : EvN F (tSeq (tAsg te (gName i)) u) σ M := fun c H a ok DD q =>
  h c H a ok _ fun v H1 s1 r1 => k (hid c H1) v (a.trans s1.hid) r1 c H1 (Same.refl _) (ok.mono s1) DD fun w H2 s2 n => q w H2 (s1.trans s2) n
theorem enk_setPD {x : PyData} {i : Nat} (h : EvD K F te σ x) (k : ∀ F' v, Same F F' → Dq K F' v x → EvN F' u (σ.set i (some v)) M) : EvN F (tSeq (tAsg te (gName i)) u) σ M := fun c H a ok DD q =>
  h c H a ok _ fun v H1 s1 r1 => k (hid c H1) v (a.trans s1.hid) r1 c H1 (Same.refl _) (ok.mono s1) DD fun w H2 s2 n => q w H2 (s1.trans s2) n
theorem enk_parP {x : α} {y : β} {i j : Nat} (ha : Ev K F ta σ x) (hb : Ev K F tb σ y) (k : ∀ F' v w, Same F F' → Rp K F' v x → Rp K F' w y → EvN F' u ((σ.set i (some v)).set j (some w)) M) : EvN F (tSeq (tPar i j (tCons ta (tCons tb tNil))) u) σ M := fun c H a ok DD q =>
  ha c H a ok _ fun v H1 s1 r1 => hb c H1 (a.trans s1.hid) (ok.mono s1) _ fun w H2 s2 r2 => ⟨v, w, rfl, k (hid c H2) v w ((a.trans s1.hid).trans s2.hid) (r1.mono s2.hid) r2 c H2 (Same.refl _) ((ok.mono s1).mono s2) DD fun x H3 s3 n => q x H3 ((s1.trans s2).trans s3) n⟩
theorem enk_ifP {b : Bool} {s1 s2 : TS} (h : EvT F tt σ b) (k1 : b = true → EvN F (tSeq s1 u) σ M) (k2 : b = false → EvN F (tSeq s2 u) σ M) : EvN F (tSeq (tIfS tt s1 s2) u) σ M := fun c H a ok DD q =>
  h c H a ok _ fun H1 t1 => by
    cases b with
    | true => exact k1 rfl c H1 (a.trans t1.hid) (ok.mono t1) DD fun w H2 t2 r2 => q w H2 (t1.trans t2) r2
    | false => exact k2 rfl c H1 (a.trans t1.hid) (ok.mono t1) DD fun w H2 t2 r2 => q w H2 (t1.trans t2) r2
theorem enk_next (h : EvN F u σ M) : EvN F (tSeq tNext u) σ M := h
end
end Sp

set_option linter.all false
set_option maxHeartbeats 1000000
/-! sums, determinants by the first coordinate -/
namespace Lp
def sm : Nat → (Nat → Int) → Int
  | 0, _ => 0
  | n + 1, g => sm n g + g n
theorem sm_congr {n : Nat} {f g : Nat → Int} (h : ∀ i, i < n → f i = g i) : sm n f = sm n g := by
  induction n with
  | zero => rfl
  | succ n ih => rw [sm, sm, ih fun i hi => h i (by omega), h n (by omega)]
theorem sm_zero {n : Nat} {f : Nat → Int} (h : ∀ i, i < n → f i = 0) : sm n f = 0 := by
  induction n with
  | zero => rfl
  | succ n ih => rw [sm, ih fun i hi => h i (by omega), h n (by omega)]; rfl
theorem sm_add {n : Nat} {f g : Nat → Int} : sm n (fun i => f i + g i) = sm n f + sm n g := by
  induction n with
  | zero => rfl
  | succ n ih => rw [sm, sm, sm, ih]; omega
theorem sm_mul {n : Nat} {f : Nat → Int} {a : Int} : sm n (fun i => a * f i) = a * sm n f := by
  induction n with
  | zero => simp [sm]
  | succ n ih => rw [sm, sm, ih, Int.mul_add]
theorem sm_neg {n : Nat} {f : Nat → Int} : sm n (fun i => - f i) = - sm n f := by
  induction n with
  | zero => rfl
  | succ n ih => rw [sm, sm, ih]; omega
theorem sm_sub {n : Nat} {f g : Nat → Int} : sm n (fun i => f i - g i) = sm n f - sm n g := by
  induction n with
  | zero => rfl
  | succ n ih => rw [sm, sm, sm, ih]; omega
theorem sm_one {n k : Nat} {f : Nat → Int} (hk : k < n) (h : ∀ i, i < n → i ≠ k → f i = 0) : sm n f = f k := by
  induction n with
  | zero => omega
  | succ n ih =>
    rw [sm]
    by_cases e : k = n
    · subst e
      rw [sm_zero fun i hi => h i (by omega) (by omega)]; omega
    · rw [ih (by omega) fun i hi => h i (by omega), h n (by omega) (fun q => e q.symm)]; omega
theorem sm_two {n k l : Nat} {f : Nat → Int} (hk : k < n) (hl : l < n) (hkl : k ≠ l) (h : ∀ i, i < n → i ≠ k → i ≠ l → f i = 0) : sm n f = f k + f l := by
  induction n with
  | zero => omega
  | succ n ih =>
    rw [sm]
    by_cases e : k = n
    · subst e
      rw [sm_one (k := l) (by omega) fun i hi hn => h i (by omega) (by omega) hn]; omega
    · by_cases e2 : l = n
      · subst e2
        rw [sm_one (k := k) (by omega) fun i hi hn => h i (by omega) hn (by omega)]
      · rw [ih (by omega) (by omega) fun i hi => h i (by omega), h n (by omega) (fun q => e q.symm) (fun q => e2 q.symm)]; omega
theorem sm_comm {n m : Nat} {f : Nat → Nat → Int} : sm n (fun i => sm m (fun j => f i j)) = sm m (fun j => sm n (fun i => f i j)) := by
  induction n with
  | zero => exact (sm_zero fun i _ => rfl).symm
  | succ n ih => rw [sm, ih, ← sm_add]; rfl
theorem sm_nonneg {n : Nat} {f : Nat → Int} (h : ∀ i, i < n → 0 ≤ f i) : 0 ≤ sm n f := by
  induction n with
  | zero => exact Int.le_refl _
  | succ n ih =>
    have a := ih fun i hi => h i (by omega)
    have b := h n (by omega)
    rw [sm]; omega
theorem sm_le {n : Nat} {f g : Nat → Int} (h : ∀ i, i < n → f i ≤ g i) : sm n f ≤ sm n g := by
  induction n with
  | zero => exact Int.le_refl _
  | succ n ih =>
    have a := ih fun i hi => h i (by omega)
    have b := h n (by omega)
    rw [sm, sm]; omega
theorem sm_pos {n : Nat} {f : Nat → Int} (h : 0 < sm n f) : ∃ i, i < n ∧ 0 < f i := by
  induction n with
  | zero => exact absurd h (Int.lt_irrefl _)
  | succ n ih =>
    rw [sm] at h
    by_cases q : 0 < sm n f
    · obtain ⟨i, hi, hf⟩ := ih q
      exact ⟨i, by omega, hf⟩
    · exact ⟨n, by omega, by omega⟩
/-- a sum of things from 0 on that is 0 -/
theorem sm_eq0 {n : Nat} {f : Nat → Int} (h : ∀ i, i < n → 0 ≤ f i) (e : sm n f = 0) : ∀ i, i < n → f i = 0 := by
  induction n with
  | zero => intro i hi; omega
  | succ n ih =>
    have a := sm_nonneg (n := n) (f := f) fun i hi => h i (by omega)
    have b := h n (by omega)
    rw [sm] at e
    intro i hi
    by_cases q : i = n
    · subst q; omega
    · exact ih (fun j hj => h j (by omega)) (by omega) i (by omega)

def put {α : Type} (f : Nat → α) (i : Nat) (v : α) : Nat → α := fun c => if c = i then v else f c
theorem put_at {α : Type} {f : Nat → α} {i : Nat} {v : α} : put f i v i = v := by simp [put]
theorem put_ne {α : Type} {f : Nat → α} {i c : Nat} {v : α} (h : c ≠ i) : put f i v c = f c := by simp [put, h]
def sg (j : Nat) : Int := if j % 2 = 0 then 1 else -1
theorem sg_succ (j : Nat) : sg (j + 1) = - sg j := by
  unfold sg
  by_cases h : j % 2 = 0
  · rw [if_pos h, if_neg (by omega)]
  · rw [if_neg h, if_pos (by omega)]; rfl
def skp (f : Nat → Nat → Int) (j : Nat) : Nat → Nat → Int := fun c r => f (if c < j then c else c + 1) (r + 1)
/-- the determinant of the columns f 0 .. f (n-1), coordinates 0 .. n-1 -/
def dt : Nat → (Nat → Nat → Int) → Int
  | 0, _ => 1
  | n + 1, f => sm (n + 1) fun j => sg j * f j 0 * dt n (skp f j)
theorem dt_congr : ∀ {n : Nat} {f g : Nat → Nat → Int}, (∀ c r, c < n → r < n → f c r = g c r) → dt n f = dt n g := by
  intro n
  induction n with
  | zero => intro f g _; rfl
  | succ n ih =>
    intro f g h
    rw [dt, dt]
    refine sm_congr fun j hj => ?_
    rw [h j 0 hj (by omega), ih (f := skp f j) (g := skp g j)]
    intro c r hc hr
    unfold skp
    split
    · exact h _ _ (by omega) (by omega)
    · exact h _ _ (by omega) (by omega)
/-- a column that is a sum of columns -/
theorem dt_sum : ∀ {n : Nat} {f : Nat → Nat → Int} {i : Nat} {k : Nat} {w : Int} {v : Nat → Int} {t : Nat → Int} {u : Nat → Nat → Int}, i < n → (∀ r, r < n → w * v r = sm k fun l => t l * u l r) →
    w * dt n (put f i v) = sm k fun l => t l * dt n (put f i (u l)) := by
  intro n
  induction n with
  | zero => intro f i k w v t u h; omega
  | succ n ih =>
    intro f i k w v t u hi h
    have e : ∀ j, j < n + 1 → w * (sg j * put f i v j 0 * dt n (skp (put f i v) j)) = sm k fun l => t l * (sg j * put f i (u l) j 0 * dt n (skp (put f i (u l)) j)) := by
      intro j hj
      by_cases q : j = i
      · subst q
        have z : ∀ x, dt n (skp (put f j x) j) = dt n (skp f j) := fun x => dt_congr fun c r _ _ => by
          unfold skp
          rw [put_ne]
          split <;> omega
        rw [put_at, z]
        have h0 := h 0 (by omega)
        calc w * (sg j * v 0 * dt n (skp f j)) = (sg j * dt n (skp f j)) * (w * v 0) := by grind
          _ = sm k fun l => (sg j * dt n (skp f j)) * (t l * u l 0) := by rw [h0, ← sm_mul]
          _ = _ := sm_congr fun l _ => by rw [put_at, z]; grind
      · have z : ∀ x : Nat → Int, dt n (skp (put f i x) j) = dt n (put (skp f j) (if i < j then i else i - 1) (fun r => x (r + 1))) := fun x => dt_congr fun c r _ _ => by
          unfold skp put
          by_cases a : c < j
          · rw [if_pos a]
            by_cases b : i < j
            · rw [if_pos b]
              by_cases e : c = i
              · rw [if_pos e, if_pos e]
              · rw [if_neg e, if_neg e]
                simp only [if_pos a]
            · rw [if_neg b, if_neg (show ¬c = i by omega), if_neg (show ¬c = i - 1 by omega)]
              simp only [if_pos a]
          · rw [if_neg a]
            by_cases b : i < j
            · rw [if_pos b, if_neg (show ¬c + 1 = i by omega), if_neg (show ¬c = i by omega)]
              simp only [if_neg a]
            · rw [if_neg b]
              by_cases e : c + 1 = i
              · rw [if_pos e, if_pos (show c = i - 1 by omega)]
              · rw [if_neg e, if_neg (show ¬c = i - 1 by omega)]
                simp only [if_neg a]
        have ei := ih (f := skp f j) (i := if i < j then i else i - 1) (k := k) (w := w) (v := fun r => v (r + 1)) (t := t) (u := fun l r => u l (r + 1)) (by grind) (fun r hr => h (r + 1) (by omega))
        rw [put_ne q, z]
        calc w * (sg j * f j 0 * dt n (put (skp f j) (if i < j then i else i - 1) (fun r => v (r + 1)))) = (sg j * f j 0) * (w * dt n (put (skp f j) (if i < j then i else i - 1) (fun r => v (r + 1)))) := by grind
          _ = sm k fun l => (sg j * f j 0) * (t l * dt n (put (skp f j) (if i < j then i else i - 1) (fun r => u l (r + 1)))) := by rw [ei, ← sm_mul]
          _ = _ := sm_congr fun l _ => by rw [put_ne q, z]; grind
    rw [dt, ← sm_mul, sm_congr e, sm_comm]
    refine sm_congr fun l _ => ?_
    rw [sm_mul, dt]
theorem dt_adj : ∀ {n : Nat} {f : Nat → Nat → Int} {i : Nat}, i + 1 < n → (∀ r, f i r = f (i + 1) r) → dt n f = 0 := by
  intro n
  induction n with
  | zero => intro f i h; omega
  | succ n ih =>
    intro f i hi h
    rw [dt, sm_two (k := i) (l := i + 1) (by omega) hi (by omega)]
    · have z : dt n (skp f i) = dt n (skp f (i + 1)) := dt_congr fun c r _ _ => by
        unfold skp
        by_cases a : c < i
        · rw [if_pos a, if_pos (by omega)]
        · by_cases b : c = i
          · subst b
            rw [if_neg a, if_pos (by omega)]
            exact (h _).symm
          · rw [if_neg a, if_neg (by omega)]
      rw [z, sg_succ, h 0]
      grind
    · intro j hj h1 h2
      have z : dt n (skp f j) = 0 := by
        by_cases a : j < i
        · refine ih (i := i - 1) (by omega) fun r => ?_
          unfold skp
          rw [if_neg (by omega), if_neg (by omega), show i - 1 + 1 = i by omega]
          exact h _
        · refine ih (i := i) (by omega) fun r => ?_
          unfold skp
          rw [if_pos (by omega), if_pos (by omega)]
          exact h _
      rw [z, Int.mul_zero]
theorem dt_add {n : Nat} {f : Nat → Nat → Int} {i : Nat} {u v : Nat → Int} (hi : i < n) : dt n (put f i fun r => u r + v r) = dt n (put f i u) + dt n (put f i v) := by
  have := dt_sum (n := n) (f := f) (i := i) (k := 2) (w := 1) (v := fun r => u r + v r) (t := fun _ => 1) (u := fun l => if l = 0 then u else v) hi (fun r _ => by simp [sm])
  simp [sm] at this
  exact this
theorem put_self {α : Type} {f : Nat → α} {i : Nat} : put f i (f i) = f := by
  funext c
  unfold put
  split
  · rename_i h; rw [h]
  · rfl
theorem put_put {α : Type} {f : Nat → α} {i : Nat} {a b : α} : put (put f i a) i b = put f i b := by
  funext c
  unfold put
  split <;> rfl
theorem put_comm {α : Type} {f : Nat → α} {i j : Nat} {a b : α} (h : i ≠ j) : put (put f i a) j b = put (put f j b) i a := by
  funext c
  unfold put
  grind
/-- neighbours changed over -/
theorem dt_swap {n : Nat} {f : Nat → Nat → Int} {i : Nat} (hi : i + 1 < n) : dt n (put (put f i (f (i + 1))) (i + 1) (f i)) = - dt n f := by
  have z : ∀ x, dt n (put (put f i x) (i + 1) x) = 0 := fun x => dt_adj hi fun r => by
    rw [put_at, put_ne (by omega), put_at]
  have a := z (fun r => f i r + f (i + 1) r)
  rw [dt_add hi, put_comm (by omega), dt_add (by omega), put_comm (by omega) (a := fun r => f i r + f (i + 1) r), dt_add (by omega)] at a
  rw [put_comm (show i + 1 ≠ i by omega) (a := f i) (b := f i), put_comm (show i + 1 ≠ i by omega) (a := f i) (b := f (i + 1)), put_comm (show i + 1 ≠ i by omega) (a := f (i + 1)) (b := f i), put_comm (show i + 1 ≠ i by omega) (a := f (i + 1)) (b := f (i + 1)), z (f i), z (f (i + 1))] at a
  rw [show put (put f i (f i)) (i + 1) (f (i + 1)) = f by rw [put_self, put_self]] at a
  omega
theorem dt_same : ∀ (d : Nat) {n : Nat} {f : Nat → Nat → Int} {i : Nat}, i + d + 1 < n → (∀ r, f i r = f (i + d + 1) r) → dt n f = 0 := by
  intro d
  induction d with
  | zero => intro n f i h e; exact dt_adj h e
  | succ d ih =>
    intro n f i h e
    have s := dt_swap (n := n) (f := f) (i := i + d + 1) h
    have z : dt n (put (put f (i + d + 1) (f (i + d + 1 + 1))) (i + d + 1 + 1) (f (i + d + 1))) = 0 := ih (i := i) (by omega) fun r => by
      rw [put_ne (by omega), put_ne (by omega), put_ne (by omega), put_at]
      exact e r
    omega
/-- two like columns -/
theorem dt_eq0 {n : Nat} {f : Nat → Nat → Int} {i k : Nat} (hi : i < n) (hk : k < n) (hik : i ≠ k) (h : f i = f k) : dt n f = 0 := by
  by_cases q : i < k
  · exact dt_same (k - i - 1) (i := i) (by omega) fun r => by rw [show i + (k - i - 1) + 1 = k by omega, h]
  · exact dt_same (i - k - 1) (i := k) (by omega) fun r => by rw [show k + (i - k - 1) + 1 = i by omega, h]
/-- any two changed over -/
theorem dt_flip {n : Nat} {f : Nat → Nat → Int} {i k : Nat} (hi : i < n) (hk : k < n) (hik : i ≠ k) : dt n (put (put f i (f k)) k (f i)) = - dt n f := by
  have z : ∀ x, dt n (put (put f i x) k x) = 0 := fun x => dt_eq0 hi hk hik (by rw [put_at, put_ne hik, put_at])
  have a := z (fun r => f i r + f k r)
  rw [dt_add hk, put_comm hik, put_comm hik, dt_add hi, dt_add hi] at a
  rw [put_comm (Ne.symm hik) (a := f i) (b := f i), put_comm (Ne.symm hik) (a := f i) (b := f k), put_comm (Ne.symm hik) (a := f k) (b := f i), put_comm (Ne.symm hik) (a := f k) (b := f k), z (f i), z (f k)] at a
  rw [show put (put f i (f i)) k (f k) = f by rw [put_self, put_self]] at a
  omega
def fct : Nat → Nat
  | 0 => 1
  | n + 1 => (n + 1) * fct n
def pw (M : Nat) : Nat → Nat
  | 0 => 1
  | n + 1 => M * pw M n
theorem sm_bound {n : Nat} {f : Nat → Int} {B : Nat} (h : ∀ i, i < n → (f i).natAbs ≤ B) : (sm n f).natAbs ≤ n * B := by
  induction n with
  | zero => simp [sm]
  | succ n ih =>
    have a := ih fun i hi => h i (by omega)
    have b := h n (by omega)
    rw [sm, Nat.succ_mul]
    omega
theorem sg_abs (j : Nat) : (sg j).natAbs = 1 := by unfold sg; split <;> rfl
theorem dt_bound {M : Nat} : ∀ {n : Nat} {f : Nat → Nat → Int}, (∀ c r, c < n → r < n → (f c r).natAbs ≤ M) → (dt n f).natAbs ≤ fct n * pw M n := by
  intro n
  induction n with
  | zero => intro f _; simp [dt, fct, pw]
  | succ n ih =>
    intro f h
    rw [dt, fct, pw, Nat.mul_assoc]
    refine sm_bound fun j hj => ?_
    rw [Int.natAbs_mul, Int.natAbs_mul, sg_abs, Nat.one_mul]
    have a := h j 0 hj (by omega)
    have b := ih (f := skp f j) fun c r hc hr => by
      unfold skp
      split
      · exact h _ _ (by omega) (by omega)
      · exact h _ _ (by omega) (by omega)
    calc (f j 0).natAbs * (dt n (skp f j)).natAbs ≤ M * (fct n * pw M n) := Nat.mul_le_mul a b
      _ = fct n * (M * pw M n) := by rw [← Nat.mul_assoc, Nat.mul_comm M, Nat.mul_assoc]
def unit (r : Nat) : Nat → Int := fun s => if s = r then 1 else 0
theorem dt_unit : ∀ {n : Nat}, dt n (fun c => unit c) = 1 := by
  intro n
  induction n with
  | zero => rfl
  | succ n ih =>
    rw [dt, sm_one (k := 0) (by omega)]
    · rw [show unit 0 0 = 1 by rfl, show sg 0 = 1 by rfl, show skp (fun c => unit c) 0 = fun c => unit c by
        funext c r
        unfold skp unit
        simp, ih]
      rfl
    · intro i hi h
      rw [show unit i 0 = 0 by unfold unit; rw [if_neg (by omega)]]
      simp
end Lp

set_option linter.all false
set_option maxHeartbeats 1000000
/-! the table of a basis, and its turn -/
namespace Lp
/-- F's columns with two put in, by what they come to -/
theorem dt_two {m : Nat} {F : Nat → Nat → Int} {at_ i : Nat} {w : Int} {p q : Nat → Int} {tp tq : Nat → Int} (ha : at_ < m) (hi : i < m) (hne : i ≠ at_) (hp : ∀ r, r < m → w * p r = sm m fun l => tp l * F l r) (hq : ∀ r, r < m → w * q r = sm m fun l => tq l * F l r) :
    w * (w * dt m (put (put F at_ p) i q)) = (tp at_ * tq i - tp i * tq at_) * dt m F := by
  have key : ∀ l, l < m → w * dt m (put (put F at_ (F l)) i q) = if l = at_ then tq i * dt m F else if l = i then - (tq at_ * dt m F) else 0 := by
    intro l hl
    by_cases a : l = at_
    · subst a
      rw [if_pos rfl, put_self, dt_sum hi hq, sm_one (k := i) hi]
      · rw [put_self]
      · intro k hk hki
        rw [dt_eq0 hk hi hki (by rw [put_ne hki, put_at]), Int.mul_zero]
    · rw [if_neg a]
      by_cases b : l = i
      · subst b
        rw [if_pos rfl, dt_sum hi hq, sm_one (k := at_) ha]
        · have := dt_flip (f := F) hi ha hne
          rw [put_comm hne] at this
          rw [this]; grind
        · intro k hk hki
          by_cases e : k = l
          · subst e
            rw [dt_eq0 ha hi (Ne.symm hne) (by rw [put_ne (Ne.symm hne), put_at, put_at]), Int.mul_zero]
          · rw [dt_eq0 hk hi e (by rw [put_ne e, put_ne hki, put_at]), Int.mul_zero]
      · rw [if_neg b, dt_eq0 ha hl (Ne.symm a) (by rw [put_ne (Ne.symm hne), put_at, put_ne b, put_ne a]), Int.mul_zero]
  have e1 : w * dt m (put (put F at_ p) i q) = tp at_ * dt m (put (put F at_ (F at_)) i q) + tp i * dt m (put (put F at_ (F i)) i q) := by
    rw [put_comm (Ne.symm hne), dt_sum ha hp, sm_two (k := at_) (l := i) ha hi (Ne.symm hne)]
    · rw [put_comm hne (b := F at_), put_comm hne (b := F i)]
    · intro l hl h1 h2
      rw [put_comm hne, dt_eq0 ha hl (Ne.symm h1) (by rw [put_ne (Ne.symm hne), put_at, put_ne h2, put_ne h1]), Int.mul_zero]
  have k1 := key at_ ha
  have k2 := key i hi
  rw [if_pos rfl] at k1
  rw [if_neg hne, if_pos rfl] at k2
  rw [e1]
  calc w * (tp at_ * dt m (put (put F at_ (F at_)) i q) + tp i * dt m (put (put F at_ (F i)) i q)) = tp at_ * (w * dt m (put (put F at_ (F at_)) i q)) + tp i * (w * dt m (put (put F at_ (F i)) i q)) := by grind
    _ = _ := by rw [k1, k2]; grind

/-- T: the table of the columns B of A; N columns, m rows; w: the determinant, s: its sign -/
structure Tab (m N : Nat) (A : Nat → Nat → Int) (T : Nat → Nat → Int) (B : Nat → Nat) (w s : Int) : Prop where
  pos : 0 < w
  sgn : s = 1 ∨ s = -1
  bas : ∀ i, i < m → B i < N
  det : w = s * dt m fun c => A (B c)
  ent : ∀ i j, i < m → j < N → T i j = s * dt m (put (fun c => A (B c)) i (A j))
  rel : ∀ j r, j < N → r < m → w * A j r = sm m fun i => T i j * A (B i) r
section
variable {m N : Nat} {A T T' : Nat → Nat → Int} {B B' : Nat → Nat} {w s w' s' : Int}
theorem Tab.at (h : Tab m N A T B w s) {i : Nat} (hi : i < m) : T i (B i) = w := by
  rw [h.ent i _ hi (h.bas i hi), show put (fun c => A (B c)) i (A (B i)) = fun c => A (B c) from put_self (f := fun c => A (B c)), ← h.det]
theorem Tab.off (h : Tab m N A T B w s) {i k : Nat} (hi : i < m) (hk : k < m) (hne : i ≠ k) : T i (B k) = 0 := by
  rw [h.ent i _ hi (h.bas k hk), dt_eq0 hi hk hne (by rw [put_at, put_ne (Ne.symm hne)]), Int.mul_zero]
theorem Tab.inj (h : Tab m N A T B w s) {i k : Nat} (hi : i < m) (hk : k < m) (e : B i = B k) : i = k := by
  refine Classical.byContradiction fun hne => ?_
  have a := h.off hi hk hne
  rw [← e, h.at hi] at a
  have := h.pos
  omega
/-- one turn: the row at_ by the sign e, then all others; the divisions have no rest -/
structure Turned (m N : Nat) (T T' : Nat → Nat → Int) (at_ p : Nat) (w e : Int) : Prop where
  row : ∀ j, j < N → T' at_ j = e * T at_ j
  oth : ∀ i j, i < m → j < N → i ≠ at_ → w * T' i j = T i j * (e * T at_ p) - T i p * (e * T at_ j)
/-- what is divided -/
theorem Tab.exact (h : Tab m N A T B w s) {at_ p i j : Nat} (ha : at_ < m) (hp : p < N) (hi : i < m) (hj : j < N) (hne : i ≠ at_) : w * (s * dt m (put (put (fun c => A (B c)) at_ (A p)) i (A j))) = T i j * T at_ p - T i p * T at_ j := by
  have e := dt_two (F := fun c => A (B c)) (w := w) ha hi hne (fun r hr => h.rel p r hp hr) (fun r hr => h.rel j r hj hr)
  have hw := h.pos
  have hd := h.det
  have hs : s * s = 1 := by rcases h.sgn with q | q <;> rw [q] <;> rfl
  have e2 : dt m (fun c => A (B c)) = s * w := by rw [hd, ← Int.mul_assoc, hs, Int.one_mul]
  rw [e2] at e
  have e3 : w * dt m (put (put (fun c => A (B c)) at_ (A p)) i (A j)) = (T at_ p * T i j - T i p * T at_ j) * s := by
    refine Int.eq_of_mul_eq_mul_left (Int.ne_of_gt hw) ?_
    rw [e]; grind
  calc w * (s * dt m (put (put (fun c => A (B c)) at_ (A p)) i (A j))) = s * (w * dt m (put (put (fun c => A (B c)) at_ (A p)) i (A j))) := by grind
    _ = (s * s) * (T at_ p * T i j - T i p * T at_ j) := by rw [e3]; grind
    _ = _ := by rw [hs]; grind
theorem Tab.dvd (h : Tab m N A T B w s) {at_ p i j : Nat} (ha : at_ < m) (hp : p < N) (hi : i < m) (hj : j < N) (hne : i ≠ at_) : w ∣ T i j * T at_ p - T i p * T at_ j :=
  ⟨_, (h.exact ha hp hi hj hne).symm⟩
theorem Tab.turn (h : Tab m N A T B w s) {at_ p : Nat} {e : Int} (ha : at_ < m) (hp : p < N) (he : e = 1 ∨ e = -1) (hs : 0 < e * T at_ p) (k : Turned m N T T' at_ p w e) : Tab m N A T' (put B at_ p) (e * T at_ p) (e * s) := by
  have hA : (fun c => A (put B at_ p c)) = put (fun c => A (B c)) at_ (A p) := by
    funext c
    unfold put
    split <;> rfl
  have hw := h.pos
  refine ⟨hs, ?_, ?_, ?_, ?_, ?_⟩
  · rcases he with q | q <;> rcases h.sgn with q2 | q2 <;> rw [q, q2] <;> decide
  · intro i hi
    unfold put
    split
    · exact hp
    · exact h.bas i hi
  · rw [hA, h.ent at_ p ha hp, Int.mul_assoc]
  · intro i j hi hj
    rw [hA]
    by_cases q : i = at_
    · subst q
      rw [k.row j hj, h.ent i j ha hj, put_put, Int.mul_assoc]
    · refine Int.eq_of_mul_eq_mul_left (Int.ne_of_gt hw) ?_
      rw [k.oth i j hi hj q]
      have := h.exact ha hp hi hj q
      calc T i j * (e * T at_ p) - T i p * (e * T at_ j) = e * (T i j * T at_ p - T i p * T at_ j) := by grind
        _ = e * (w * (s * dt m (put (put (fun c => A (B c)) at_ (A p)) i (A j)))) := by rw [this]
        _ = _ := by grind
  · intro j r hj hr
    refine Int.eq_of_mul_eq_mul_left (Int.ne_of_gt hw) ?_
    have ej := h.rel j r hj hr
    have ep := h.rel p r hp hr
    rw [← sm_mul]
    have hc : sm m (fun i => w * (T' i j * A (put B at_ p i) r)) = sm m fun i => (e * T at_ p) * (T i j * A (B i) r) - (e * T at_ j) * (T i p * A (B i) r) + (if i = at_ then (e * T at_ j) * (w * A p r) else 0) := by
      refine sm_congr fun i hi => ?_
      by_cases q : i = at_
      · subst q
        rw [if_pos rfl, put_at, k.row j hj]
        grind
      · rw [if_neg q, put_ne q, ← Int.mul_assoc, k.oth i j hi hj q]
        grind
    rw [hc, sm_add, sm_sub, sm_mul, sm_mul, ← ej, ← ep, sm_one (k := at_) (f := fun i => if i = at_ then (e * T at_ j) * (w * A p r) else 0) ha (fun i _ q => if_neg q), if_pos rfl]
    grind
/-- the row q tells what the costs c come to -/
def Cost (m N : Nat) (c : Nat → Int) (T : Nat → Nat → Int) (B : Nat → Nat) (w : Int) (q : Nat) : Prop := ∀ j, j < N → T q j = w * c j - sm m fun i => c (B i) * T i j
theorem Tab.costAt (h : Tab m N A T B w s) {c : Nat → Int} {q k : Nat} (g : Cost m N c T B w q) (hk : k < m) : T q (B k) = 0 := by
  rw [g _ (h.bas k hk), sm_one (k := k) hk, h.at hk]
  · grind
  · intro i hi hne
    rw [h.off hi hk hne, Int.mul_zero]
/-- the cost row's turn -/
theorem Tab.cost (h : Tab m N A T B w s) {c : Nat → Int} {q at_ p : Nat} {e : Int} (g : Cost m N c T B w q) (ha : at_ < m) (hp : p < N) (k : Turned m N T T' at_ p w e) {j : Nat} (hj : j < N) :
    T q j * (e * T at_ p) - T q p * (e * T at_ j) = w * ((e * T at_ p) * c j - sm m fun i => c (put B at_ p i) * T' i j) := by
  have e1 : w * sm m (fun i => c (put B at_ p i) * T' i j) = sm m fun i => (e * T at_ p) * (c (B i) * T i j) - (e * T at_ j) * (c (B i) * T i p) + (if i = at_ then w * (c p * (e * T at_ j)) else 0) := by
    rw [← sm_mul]
    refine sm_congr fun i hi => ?_
    by_cases q : i = at_
    · subst q
      rw [if_pos rfl, put_at, k.row j hj]
      grind
    · rw [if_neg q, put_ne q]
      have := k.oth i j hi hj q
      grind
  rw [sm_add, sm_sub, sm_mul, sm_mul, sm_one (k := at_) (f := fun i => if i = at_ then w * (c p * (e * T at_ j)) else 0) ha (fun i _ q => if_neg q), if_pos rfl] at e1
  rw [g j hj, g p hp]
  grind
theorem Tab.costTurn (h : Tab m N A T B w s) {c : Nat → Int} {q at_ p : Nat} {e : Int} (g : Cost m N c T B w q) (ha : at_ < m) (hp : p < N) (k : Turned m N T T' at_ p w e) (kq : ∀ j, j < N → w * T' q j = T q j * (e * T at_ p) - T q p * (e * T at_ j)) :
    Cost m N c T' (put B at_ p) (e * T at_ p) q := fun j hj => by
  refine Int.eq_of_mul_eq_mul_left (Int.ne_of_gt h.pos) ?_
  rw [kq j hj, h.cost g ha hp k hj]
theorem Tab.costDvd (h : Tab m N A T B w s) {c : Nat → Int} {q at_ p : Nat} {e : Int} (g : Cost m N c T B w q) (ha : at_ < m) (hp : p < N) (k : Turned m N T T' at_ p w e) {j : Nat} (hj : j < N) :
    w ∣ T q j * (e * T at_ p) - T q p * (e * T at_ j) := ⟨_, h.cost g ha hp k hj⟩
/-- a row is a sum of columns of units -/
theorem Tab.units (h : Tab m N A T B w s) {many : Nat} (hu : ∀ r, r < m → many + r < N ∧ A (many + r) = unit r) {i j : Nat} (hi : i < m) (hj : j < N) : T i j = sm m fun r => A j r * T i (many + r) := by
  rw [h.ent i j hi hj]
  have e := dt_sum (n := m) (f := fun c => A (B c)) (i := i) (k := m) (w := 1) (v := A j) (t := A j) (u := fun r => unit r) hi (fun r hr => by
    rw [Int.one_mul, sm_one (k := r) hr]
    · unfold unit; rw [if_pos rfl, Int.mul_one]
    · intro l hl hne
      unfold unit; rw [if_neg (fun q => hne q.symm), Int.mul_zero])
  rw [Int.one_mul] at e
  rw [e, ← sm_mul]
  refine sm_congr fun r hr => ?_
  rw [h.ent i _ hi (hu r hr).1, (hu r hr).2]
  grind
/-- the rows' own numbers -/
def dual (m : Nat) (c : Nat → Int) (T : Nat → Nat → Int) (B : Nat → Nat) (many r : Nat) : Int := sm m fun i => c (B i) * T i (many + r)
theorem Tab.costDual (h : Tab m N A T B w s) {c : Nat → Int} {q many : Nat} (g : Cost m N c T B w q) (hu : ∀ r, r < m → many + r < N ∧ A (many + r) = unit r) {j : Nat} (hj : j < N) : T q j = w * c j - sm m fun r => A j r * dual m c T B many r := by
  rw [g j hj]
  congr 1
  have : sm m (fun i => c (B i) * T i j) = sm m fun i => sm m fun r => A j r * (c (B i) * T i (many + r)) := sm_congr fun i hi => by
    rw [h.units hu hi hj, ← sm_mul]
    exact sm_congr fun r _ => by grind
  rw [this, sm_comm]
  exact sm_congr fun r _ => by rw [dual, sm_mul]
theorem Tab.bound (h : Tab m N A T B w s) {M : Nat} (hM : ∀ j r, j < N → r < m → (A j r).natAbs ≤ M) {i j : Nat} (hi : i < m) (hj : j < N) : (T i j).natAbs ≤ fct m * pw M m := by
  rw [h.ent i j hi hj, Int.natAbs_mul, show s.natAbs = 1 by rcases h.sgn with q | q <;> rw [q] <;> rfl, Nat.one_mul]
  refine dt_bound fun c r hc hr => ?_
  unfold put
  split
  · exact hM j r hj hr
  · exact hM _ r (h.bas c hc) hr
theorem Tab.boundW (h : Tab m N A T B w s) {M : Nat} (hM : ∀ j r, j < N → r < m → (A j r).natAbs ≤ M) : w.natAbs ≤ fct m * pw M m := by
  rw [h.det, Int.natAbs_mul, show s.natAbs = 1 by rcases h.sgn with q | q <;> rw [q] <;> rfl, Nat.one_mul]
  exact dt_bound fun c r hc hr => hM _ r (h.bas c hc) hr
end
end Lp

set_option linter.all false
set_option maxHeartbeats 1000000
/-! least numbers first: no going round -/
namespace Lp
theorem pigeon : ∀ (K : Nat) (f : Nat → Nat), (∀ k, f k < K) → ∃ a b, a < b ∧ f a = f b := by
  intro K
  induction K with
  | zero => intro f h; exact absurd (h 0) (by omega)
  | succ K ih =>
    intro f h
    by_cases q : ∃ a, f a = K
    · obtain ⟨a, ha⟩ := q
      by_cases q2 : ∃ b, a < b ∧ f b = K
      · obtain ⟨b, hb, e⟩ := q2
        exact ⟨a, b, hb, by rw [ha, e]⟩
      · obtain ⟨x, y, hxy, e⟩ := ih (fun k => f (a + 1 + k)) fun k => by
          have h1 := h (a + 1 + k)
          have : f (a + 1 + k) ≠ K := fun e => q2 ⟨_, by omega, e⟩
          show f (a + 1 + k) < K
          omega
        exact ⟨_, _, by omega, e⟩
    · exact ih f fun k => by
        have h1 := h k
        have : f k ≠ K := fun e => q ⟨_, e⟩
        omega
def code (N : Nat) : Nat → (Nat → Nat) → Nat
  | 0, _ => 0
  | m + 1, B => code N m B * N + B m
theorem code_lt {N : Nat} : ∀ {m : Nat} {B : Nat → Nat}, (∀ i, i < m → B i < N) → code N m B < N ^ m := by
  intro m
  induction m with
  | zero => intro B h; simp [code]
  | succ m ih =>
    intro B h
    have a := ih fun i hi => h i (by omega)
    have b := h m (by omega)
    rw [code, Nat.pow_succ]
    calc code N m B * N + B m < code N m B * N + N := by omega
      _ = (code N m B + 1) * N := by rw [Nat.succ_mul]
      _ ≤ N ^ m * N := Nat.mul_le_mul_right _ a
theorem code_inj {N : Nat} : ∀ {m : Nat} {B C : Nat → Nat}, (∀ i, i < m → B i < N) → (∀ i, i < m → C i < N) → code N m B = code N m C → ∀ i, i < m → B i = C i := by
  intro m
  induction m with
  | zero => intro B C _ _ _ i hi; omega
  | succ m ih =>
    intro B C hB hC e i hi
    rw [code, code] at e
    have b := hB m (by omega)
    have c := hC m (by omega)
    have e1 : B m = C m := by
      have := congrArg (· % N) e
      simp only [Nat.mul_add_mod_self_right] at this
      rw [Nat.mod_eq_of_lt b, Nat.mod_eq_of_lt c] at this
      exact this
    by_cases q : i = m
    · rw [q, e1]
    · refine ih (fun i hi => hB i (by omega)) (fun i hi => hC i (by omega)) ?_ i (by omega)
      rw [e1] at e
      exact Nat.eq_of_mul_eq_mul_right (show 0 < N by omega) (by omega)
/-- between a and b the truth of P changes somewhere -/
theorem change {P : Nat → Prop} : ∀ (d a : Nat), P a → ¬ P (a + d) → ∃ i, a ≤ i ∧ i < a + d ∧ P i ∧ ¬ P (i + 1) := by
  intro d
  induction d with
  | zero => intro a h n; exact absurd h n
  | succ d ih =>
    intro a h n
    by_cases q : P (a + d)
    · exact ⟨a + d, by omega, by omega, q, n⟩
    · obtain ⟨i, h1, h2, h3⟩ := ih a h q
      exact ⟨i, h1, by omega, h3⟩
theorem change' {P : Nat → Prop} {a b : Nat} (hab : a ≤ b) (h : P a) (n : ¬ P b) : ∃ i, a ≤ i ∧ i < b ∧ P i ∧ ¬ P (i + 1) := by
  have := change (P := P) (b - a) a h (by rw [show a + (b - a) = b by omega]; exact n)
  rw [show a + (b - a) = b by omega] at this
  exact this
/-- the greatest of a stretch -/
theorem greatest {f : Nat → Nat} : ∀ (d a : Nat), ∃ k, a ≤ k ∧ k ≤ a + d ∧ ∀ i, a ≤ i → i ≤ a + d → f i ≤ f k := by
  intro d
  induction d with
  | zero => exact fun a => ⟨a, by omega, by omega, fun i h1 h2 => by rw [show i = a by omega]; exact Nat.le_refl _⟩
  | succ d ih =>
    intro a
    obtain ⟨k, h1, h2, h3⟩ := ih a
    by_cases q : f k ≤ f (a + (d + 1))
    · refine ⟨a + (d + 1), by omega, by omega, fun i h4 h5 => ?_⟩
      by_cases e : i = a + (d + 1)
      · rw [e]; exact Nat.le_refl _
      · exact Nat.le_trans (h3 i h4 (by omega)) q
    · refine ⟨k, h1, by omega, fun i h4 h5 => ?_⟩
      by_cases e : i = a + (d + 1)
      · rw [e]; omega
      · exact h3 i h4 (by omega)
/-- a turn by the least number: p comes in, the row at_ goes out -/
structure Step (m N many q tot : Nat) (T T' : Nat → Nat → Int) (B B' : Nat → Nat) (w w' : Int) (at_ p : Nat) : Prop where
  pm : p < many
  am : at_ < m
  neg : T q p < 0
  low : ∀ j, j < p → 0 ≤ T q j
  size : 0 < T at_ p
  least : ∀ i, i < m → 0 < T i p → 0 ≤ T i tot * T at_ p - T at_ tot * T i p ∧ (T i tot * T at_ p - T at_ tot * T i p = 0 → B at_ ≤ B i)
  bas : B' = put B at_ p
  whole : w' = 1 * T at_ p
  turned : Turned m N T T' at_ p w 1
  cost : ∀ j, j < N → w * T' q j = T q j * (1 * T at_ p) - T q p * (1 * T at_ j)
theorem Step.feas {m N many q tot : Nat} {T T' : Nat → Nat → Int} {B B' : Nat → Nat} {w w' : Int} {at_ p : Nat} (k : Step m N many q tot T T' B B' w w' at_ p) (hw : 0 < w) (ht : tot < N) (h : ∀ i, i < m → 0 ≤ T i tot) : ∀ i, i < m → 0 ≤ T' i tot := by
  intro i hi
  by_cases e : i = at_
  · subst e
    rw [k.turned.row tot ht, Int.one_mul]
    exact h _ hi
  · have e1 := k.turned.oth i tot hi ht e
    rw [Int.one_mul, Int.one_mul] at e1
    have : 0 ≤ T i tot * T at_ p - T i p * T at_ tot := by
      by_cases c : 0 < T i p
      · have := (k.least i hi c).1
        rw [Int.mul_comm (T i p)]
        exact this
      · have a := Int.mul_nonneg (h i hi) (Int.le_of_lt k.size)
        have b := Int.mul_nonneg (show 0 ≤ - T i p by omega) (h at_ k.am)
        rw [Int.neg_mul] at b
        omega
    rw [← e1] at this
    exact Int.nonneg_of_mul_nonneg_right this hw
section
variable {m N many q tot : Nat} {A : Nat → Nat → Int} {c : Nat → Int} {s : Int} {T : Nat → Nat → Nat → Int} {B : Nat → Nat → Nat} {w : Nat → Int} {a p : Nat → Nat}
/-- whether r is in the basis -/
def In (m : Nat) (B : Nat → Nat) (r : Nat) : Prop := ∃ i, i < m ∧ B i = r
theorem frac_trans {x y z u v t : Int} (hv : 0 < v) (hu : 0 < u) (ht : 0 < t) (h1 : x * v ≤ y * u) (h2 : y * t ≤ z * v) : x * t ≤ z * u := by
  have a := Int.mul_le_mul_of_nonneg_right h1 (Int.le_of_lt ht)
  have b := Int.mul_le_mul_of_nonneg_right h2 (Int.le_of_lt hu)
  have : v * (x * t) ≤ v * (z * u) := by
    calc v * (x * t) = x * v * t := by grind
      _ ≤ y * u * t := a
      _ = y * t * u := by grind
      _ ≤ z * v * u := b
      _ = v * (z * u) := by grind
  exact Int.le_of_mul_le_mul_left this hv
theorem no_round (ht : tot < N) (hu : ∀ r, r < m → many + r < N ∧ A (many + r) = unit r)
    (tab : ∀ k, Tab m N A (T k) (B k) (w k) s) (cost : ∀ k, Cost m N c (T k) (B k) (w k) q) (feas : ∀ k i, i < m → 0 ≤ T k i tot)
    (step : ∀ k, Step m N many q tot (T k) (T (k + 1)) (B k) (B (k + 1)) (w k) (w (k + 1)) (a k) (p k)) : False := by
  have hwp : ∀ k, 0 < w k := fun k => (tab k).pos
  have hpN : ∀ k, p k < N := fun k => by
    have h1 := (step k).pm
    by_cases z : m = 0
    · have := (step k).am; omega
    · have := (hu 0 (by omega)).1; omega
  -- some basis twice
  obtain ⟨x, y, hxy, exy⟩ := pigeon (N ^ m) (fun k => code N m (B k)) fun k => code_lt (tab k).bas
  have eB : ∀ i, i < m → B x i = B y i := code_inj (tab x).bas (tab y).bas exy
  have ew : w x = w y := by
    rw [(tab x).det, (tab y).det]
    congr 1
    exact dt_congr fun c r hc _ => by rw [eB c hc]
  have eT : ∀ i j, i < m → j < N → T x i j = T y i j := fun i j hi hj => by
    rw [(tab x).ent i j hi hj, (tab y).ent i j hi hj]
    congr 1
    refine dt_congr fun c r hc _ => ?_
    unfold put
    split
    · rfl
    · show A (B x c) r = A (B y c) r
      rw [eB c hc]
  have eV : T x q tot = T y q tot := by
    rw [cost x tot ht, cost y tot ht, ew]
    congr 1
    exact sm_congr fun i hi => by rw [eB i hi, eT i tot hi ht]
  -- the worth grows
  have v1 : ∀ k, T k q tot * w (k + 1) ≤ T (k + 1) q tot * w k := fun k => by
    have e := (step k).cost tot ht
    rw [Int.one_mul, Int.one_mul] at e
    have e2 := (step k).whole
    rw [Int.one_mul] at e2
    rw [e2, Int.mul_comm (T (k + 1) q tot), e]
    have := Int.mul_nonneg (show 0 ≤ - T k q (p k) by have := (step k).neg; omega) (feas k (a k) (step k).am)
    rw [Int.neg_mul] at this
    omega
  have vm : ∀ d k, T k q tot * w (k + d) ≤ T (k + d) q tot * w k := by
    intro d
    induction d with
    | zero => exact fun k => Int.le_refl _
    | succ d ih => exact fun k => frac_trans (hwp (k + d)) (hwp k) (hwp (k + d + 1)) (ih k) (v1 (k + d))
  have veq : ∀ k, x ≤ k → k < y → T k (a k) tot = 0 := fun k h1 h2 => by
    have l1 := vm (k - x) x
    rw [show x + (k - x) = k by omega] at l1
    have l2 := vm (y - (k + 1)) (k + 1)
    rw [show k + 1 + (y - (k + 1)) = y by omega] at l2
    have l3 := frac_trans (hwp y) (hwp (k + 1)) (hwp x) l2 (show T y q tot * w x ≤ T x q tot * w y by rw [eV, ew]; exact Int.le_refl _)
    have l4 := frac_trans (hwp x) (hwp (k + 1)) (hwp k) l3 l1
    have e := (step k).cost tot ht
    rw [Int.one_mul, Int.one_mul] at e
    have e2 := (step k).whole
    rw [Int.one_mul] at e2
    rw [Int.mul_comm (T (k + 1) q tot), e, e2] at l4
    have l5 : T k q (p k) * T k (a k) tot ≥ 0 := by omega
    have l6 := feas k (a k) (step k).am
    have l7 := (step k).neg
    refine Classical.byContradiction fun z => ?_
    have := Int.mul_neg_of_neg_of_pos l7 (show 0 < T k (a k) tot by omega)
    omega
  -- who comes in, who goes out
  have inj : ∀ k i j, i < m → j < m → B k i = B k j → i = j := fun k i j hi hj e => (tab k).inj hi hj e
  have comes : ∀ k r, ¬ In m (B k) r → In m (B (k + 1)) r → p k = r := fun k r h1 h2 => by
    obtain ⟨i, hi, e⟩ := h2
    rw [(step k).bas] at e
    unfold put at e
    split at e
    · exact e
    · exact absurd ⟨i, hi, e⟩ h1
  have goes : ∀ k r, In m (B k) r → ¬ In m (B (k + 1)) r → B k (a k) = r := fun k r h1 h2 => by
    obtain ⟨i, hi, e⟩ := h1
    by_cases z : i = a k
    · rw [← z, e]
    · refine absurd ⟨i, hi, ?_⟩ h2
      rw [(step k).bas, put_ne z, e]
  have zero : ∀ k i, i < m → T k q (B k i) = 0 := fun k i hi => (tab k).costAt (cost k) hi
  have pout : ∀ k, ¬ In m (B k) (p k) := fun k h => by
    obtain ⟨i, hi, e⟩ := h
    have z := zero k i hi
    rw [e] at z
    have := (step k).neg
    omega
  have pin : ∀ k, In m (B (k + 1)) (p k) := fun k => ⟨a k, (step k).am, by rw [(step k).bas, put_at]⟩
  have same : ∀ r, In m (B x) r ↔ In m (B y) r := fun r =>
    ⟨fun ⟨i, hi, e⟩ => ⟨i, hi, by rw [← eB i hi]; exact e⟩, fun ⟨i, hi, e⟩ => ⟨i, hi, by rw [eB i hi]; exact e⟩⟩
  -- what is in at 0 or is not in stays so
  let Z : Nat → Nat → Prop := fun k r => ∀ i, i < m → B k i = r → T k i tot = 0
  have zstep : ∀ k r, x ≤ k → k < y → (Z k r ↔ Z (k + 1) r) := fun k r h1 h2 => by
    have hz := veq k h1 h2
    have hr := (step k).turned
    have hn : ∀ i, i < m → i ≠ a k → (T (k + 1) i tot = 0 ↔ T k i tot = 0) := fun i hi hne => by
      have e := hr.oth i tot hi ht hne
      rw [hz, Int.mul_zero, Int.mul_zero, Int.sub_zero, Int.one_mul] at e
      have w1 := hwp k
      have s1 := (step k).size
      constructor
      · intro h
        rw [h, Int.mul_zero] at e
        rcases Int.mul_eq_zero.mp e.symm with h' | h'
        · exact h'
        · omega
      · intro h
        rw [h, Int.zero_mul] at e
        rcases Int.mul_eq_zero.mp e with h' | h'
        · omega
        · exact h'
    have h0 : T (k + 1) (a k) tot = 0 := by rw [hr.row tot ht, hz]; rfl
    constructor
    · intro h i hi e
      by_cases z : i = a k
      · rw [z]; exact h0
      · rw [(step k).bas, put_ne z] at e
        exact (hn i hi z).mpr (h i hi e)
    · intro h i hi e
      by_cases z : i = a k
      · rw [z]; exact hz
      · refine (hn i hi z).mp (h i hi ?_)
        rw [(step k).bas, put_ne z, e]
  have zall : ∀ d r, x + d ≤ y → (Z x r ↔ Z (x + d) r) := by
    intro d
    induction d with
    | zero => exact fun r _ => Iff.rfl
    | succ d ih => exact fun r h => (ih r (by omega)).trans (zstep (x + d) r (by omega) (by omega))
  have zz : ∀ k l r, x ≤ k → k ≤ y → x ≤ l → l ≤ y → Z k r → Z l r := fun k l r h1 h2 h3 h4 h => by
    have e1 := zall (k - x) r (by omega)
    have e2 := zall (l - x) r (by omega)
    rw [show x + (k - x) = k by omega] at e1
    rw [show x + (l - x) = l by omega] at e2
    exact e2.mp (e1.mpr h)
  -- the greatest that comes in
  obtain ⟨ks, g1, g2, g3⟩ := greatest (f := p) (y - x - 1) x
  have hin : ∀ r k l, x ≤ k → k ≤ y → x ≤ l → l ≤ y → In m (B k) r → ¬ In m (B l) r → r ≤ p ks := fun r k l h1 h2 h3 h4 i1 i2 => by
    by_cases z : l ≤ k
    · obtain ⟨i, b1, b2, b3, b4⟩ := change' (P := fun k => ¬ In m (B k) r) z i2 (fun n => n i1)
      have := comes i r b3 (Classical.not_not.mp b4)
      rw [← this]
      exact g3 i (by omega) (by omega)
    · by_cases zy : In m (B y) r
      · obtain ⟨i, b1, b2, b3, b4⟩ := change' (P := fun k => ¬ In m (B k) r) h4 i2 (fun n => n zy)
        have := comes i r b3 (Classical.not_not.mp b4)
        rw [← this]
        exact g3 i (by omega) (by omega)
      · have zx := fun h => zy ((same r).mp h)
        obtain ⟨i, b1, b2, b3, b4⟩ := change' (P := fun k => ¬ In m (B k) r) h1 zx (fun n => n i1)
        have := comes i r b3 (Classical.not_not.mp b4)
        rw [← this]
        exact g3 i (by omega) (by omega)
  have hgo : ∃ k, x ≤ k ∧ k < y ∧ B k (a k) = p ks := by
    by_cases zy : In m (B y) (p ks)
    · have zx := (same _).mpr zy
      obtain ⟨i, b1, b2, b3, b4⟩ := change' (P := fun k => In m (B k) (p ks)) g1 zx (pout ks)
      exact ⟨i, b1, by omega, goes i _ b3 b4⟩
    · obtain ⟨i, b1, b2, b3, b4⟩ := change' (P := fun k => In m (B k) (p ks)) (a := ks + 1) (b := y) (by omega) (pin ks) zy
      exact ⟨i, by omega, b2, goes i _ b3 b4⟩
  obtain ⟨k, k1, k2, ek⟩ := hgo
  -- both tables beside each other
  have hpk : p k < p ks := by
    have h1 := g3 k (by omega) (by omega)
    have h2 : p k ≠ p ks := fun e => pout k ⟨a k, (step k).am, by rw [ek, e]⟩
    omega
  have id1 : w k * T ks q (p k) - sm m (fun i => T k i (p k) * T ks q (B k i)) = w ks * T k q (p k) := by
    have f1 := (tab ks).costDual (cost ks) hu (hpN k)
    have f2 : sm m (fun i => T k i (p k) * T ks q (B k i)) = sm m fun i => w ks * (c (B k i) * T k i (p k)) - sm m fun r => (T k i (p k) * A (B k i) r) * dual m c (T ks) (B ks) many r := sm_congr fun i hi => by
      rw [(tab ks).costDual (cost ks) hu ((tab k).bas i hi), Int.mul_sub, ← sm_mul]
      rw [sm_congr (g := fun r => T k i (p k) * A (B k i) r * dual m c (T ks) (B ks) many r) fun r _ => by grind]
      grind
    rw [sm_sub, sm_mul, sm_comm] at f2
    have f3 : sm m (fun r => sm m fun i => T k i (p k) * A (B k i) r * dual m c (T ks) (B ks) many r) = w k * sm m fun r => A (p k) r * dual m c (T ks) (B ks) many r := by
      rw [← sm_mul]
      refine sm_congr fun r hr => ?_
      rw [sm_congr (g := fun i => dual m c (T ks) (B ks) many r * (T k i (p k) * A (B k i) r)) fun i _ => by grind, sm_mul, ← (tab k).rel (p k) r (hpN k) hr]
      grind
    rw [f3] at f2
    rw [f2, f1, cost k _ (hpN k)]
    grind
  have h1 : 0 < sm m fun i => T k i (p k) * T ks q (B k i) := by
    have n1 := (step k).neg
    have n2 := (step ks).low _ hpk
    have n3 := Int.mul_nonneg (Int.le_of_lt (hwp k)) n2
    have n4 := Int.mul_neg_of_pos_of_neg (hwp ks) n1
    omega
  obtain ⟨i, hi, hpos⟩ := sm_pos h1
  have hia : i ≠ a k := fun e => by
    rw [e, ek] at hpos
    have := Int.mul_neg_of_pos_of_neg (step k).size (step ks).neg
    omega
  have hnot : ¬ In m (B ks) (B k i) := fun h => by
    obtain ⟨l, hl, e⟩ := h
    have z := zero ks l hl
    rw [e] at z
    rw [z, Int.mul_zero] at hpos
    omega
  have hle := hin (B k i) k ks k1 (by omega) g1 (by omega) ⟨i, hi, rfl⟩ hnot
  have hlt : B k i < p ks := by
    have : B k i ≠ p ks := fun e => hia (inj k i (a k) hi (step k).am (by rw [e, ek]))
    omega
  have hc0 := (step ks).low _ hlt
  have hT : 0 < T k i (p k) := by
    refine Classical.byContradiction fun z => ?_
    have := Int.mul_nonneg (show 0 ≤ - T k i (p k) by omega) hc0
    rw [Int.neg_mul] at this
    omega
  have hZ : Z k (B k i) := zz ks k _ g1 (by omega) k1 (by omega) fun l hl e => absurd ⟨l, hl, e⟩ hnot
  have hb := hZ i hi rfl
  have hl := (step k).least i hi hT
  have := hl.2 (by rw [hb, veq k k1 k2]; omega)
  rw [ek] at this
  omega
end
end Lp

set_option linter.all false
set_option maxHeartbeats 1000000
/-! tables as lists -/
namespace Lp
def entL (tb : List (List Int)) (i j : Nat) : Int := (tb.getD i []).getD j 0
theorem getD_rm {α : Type} {n j : Nat} {f : Nat → α} {d : α} (h : j < n) : ((List.range n).map f).getD j d = f j := by
  rw [List.getD_eq_getElem?_getD, List.getElem?_map, List.getElem?_range h]; rfl
def turnedL (tb : List (List Int)) (w : Int) (at_ p : Nat) : List (List Int) :=
  (List.range tb.length).map fun i => if i = at_ then tb.getD at_ [] else (List.range (tb.getD i []).length).map fun k => (entL tb i k * entL tb at_ p - entL tb i p * entL tb at_ k) / w
theorem turnedL_len {tb : List (List Int)} {w : Int} {at_ p : Nat} : (turnedL tb w at_ p).length = tb.length := by simp [turnedL]
theorem getD_mem {α : Type} {xs : List α} {i : Nat} {d : α} (h : i < xs.length) : xs.getD i d ∈ xs := by
  rw [List.getD_eq_getElem?_getD, List.getElem?_eq_getElem h]
  exact List.getElem_mem h
theorem turnedL_cols {tb : List (List Int)} {w : Int} {at_ p N : Nat} (ha : at_ < tb.length) (h : ∀ row ∈ tb, row.length = N) : ∀ row ∈ turnedL tb w at_ p, row.length = N := by
  intro row hr
  unfold turnedL at hr
  obtain ⟨i, hi, rfl⟩ := List.mem_map.mp hr
  split
  · exact h _ (getD_mem ha)
  · rw [List.length_map, List.length_range]
    exact h _ (getD_mem (by simpa using hi))
theorem entL_turned {tb : List (List Int)} {w : Int} {at_ p N i j : Nat} (hi : i < tb.length) (h : ∀ row ∈ tb, row.length = N) (hj : j < N) :
    entL (turnedL tb w at_ p) i j = if i = at_ then entL tb at_ j else (entL tb i j * entL tb at_ p - entL tb i p * entL tb at_ j) / w := by
  conv => lhs; unfold entL turnedL
  rw [getD_rm hi]
  split
  · rfl
  · rw [getD_rm]
    rw [h _ (getD_mem hi)]
    exact hj
/-- the row at_ with the other sign -/
def negL (tb : List (List Int)) (at_ : Nat) : List (List Int) := tb.take at_ ++ [(tb.getD at_ []).map fun x => -x] ++ tb.drop (at_ + 1)
theorem getD_put {α : Type} {xs : List α} {k i : Nat} {y d : α} (hk : k < xs.length) : (xs.take k ++ [y] ++ xs.drop (k + 1)).getD i d = if i = k then y else xs.getD i d := by
  rw [List.getD_eq_getElem?_getD, List.getD_eq_getElem?_getD, List.append_assoc]
  by_cases h : i < k
  · rw [List.getElem?_append_left (by rw [List.length_take]; omega), if_neg (by omega), List.getElem?_take_of_lt h]
  · rw [List.getElem?_append_right (by rw [List.length_take]; omega), List.length_take, Nat.min_eq_left (by omega)]
    by_cases e : i = k
    · rw [if_pos e, e, Nat.sub_self]; rfl
    · rw [if_neg e, List.getElem?_append_right (by simp; omega), List.length_singleton, List.getElem?_drop]
      congr 2
      omega
theorem put_len {α : Type} {xs : List α} {k : Nat} {y : α} (hk : k < xs.length) : (xs.take k ++ [y] ++ xs.drop (k + 1)).length = xs.length := by
  simp; omega
theorem entL_neg {tb : List (List Int)} {at_ N i j : Nat} (ha : at_ < tb.length) (h : ∀ row ∈ tb, row.length = N) (hj : j < N) : entL (negL tb at_) i j = if i = at_ then - entL tb at_ j else entL tb i j := by
  unfold entL negL
  rw [getD_put ha]
  by_cases e : i = at_
  · rw [if_pos e, if_pos e]
    have hl := h _ (getD_mem (d := []) ha)
    rw [List.getD_eq_getElem?_getD, List.getElem?_map, List.getD_eq_getElem?_getD (l := tb.getD at_ []), List.getElem?_eq_getElem (by omega)]
    rfl
  · rw [if_neg e, if_neg e]
theorem negL_len {tb : List (List Int)} {at_ : Nat} (ha : at_ < tb.length) : (negL tb at_).length = tb.length := put_len ha
theorem negL_cols {tb : List (List Int)} {at_ N : Nat} (ha : at_ < tb.length) (h : ∀ row ∈ tb, row.length = N) : ∀ row ∈ negL tb at_, row.length = N := by
  intro row hr
  unfold negL at hr
  rcases List.mem_append.mp hr with hr | hr
  · rcases List.mem_append.mp hr with hr | hr
    · exact h _ (List.mem_of_mem_take hr)
    · rw [List.mem_singleton.mp hr, List.length_map]
      exact h _ (getD_mem ha)
  · exact h _ (List.mem_of_mem_drop hr)
abbrev bf (bs : List Nat) : Nat → Nat := fun i => bs.getD i 0
def putL (bs : List Nat) (k p : Nat) : List Nat := bs.take k ++ [p] ++ bs.drop (k + 1)
theorem bf_put {bs : List Nat} {k p : Nat} (hk : k < bs.length) : bf (putL bs k p) = put (bf bs) k p := by
  funext i
  show (putL bs k p).getD i 0 = _
  unfold putL put
  rw [getD_put hk]
/-- a table in order: m rows, r rows of costs, columns A -/
structure Good (m many : Nat) (A : Nat → Nat → Int) (r : Nat) (cs : Nat → Nat → Int) (tb : List (List Int)) (bs : List Nat) (w s : Int) : Prop where
  rows : tb.length = m + r
  cols : ∀ row ∈ tb, row.length = many + m + 1
  len : bs.length = m
  tab : Tab m (many + m + 1) A (entL tb) (bf bs) w s
  cost : ∀ k, k < r → Cost m (many + m + 1) (cs k) (entL tb) (bf bs) w (m + k)
  low : ∀ i, i < m → bf bs i < many + m
  feas : ∀ i, i < m → 0 ≤ entL tb i (many + m)
theorem fdiv_of {w x : Int} (hw : 0 < w) (h : w ∣ x) : w * (x / w) = x := by
  rw [Int.mul_ediv_cancel' h]
section
variable {m many r : Nat} {A : Nat → Nat → Int} {cs : Nat → Nat → Int} {tb : List (List Int)} {bs : List Nat} {w s : Int}
/-- the table with the sign e at the row -/
def sgL (tb : List (List Int)) (at_ : Nat) (e : Int) : List (List Int) := if e = 1 then tb else negL tb at_
theorem sgL_ent {at_ N i j : Nat} {e : Int} (he : e = 1 ∨ e = -1) (ha : at_ < tb.length) (h : ∀ row ∈ tb, row.length = N) (hj : j < N) : entL (sgL tb at_ e) i j = if i = at_ then e * entL tb at_ j else entL tb i j := by
  rcases he with rfl | rfl
  · unfold sgL
    rw [if_pos rfl, Int.one_mul]
    split
    · rename_i q; rw [q]
    · rfl
  · unfold sgL
    rw [if_neg (by decide), entL_neg ha h hj, Int.neg_mul, Int.one_mul]
theorem sgL_len {at_ : Nat} {e : Int} (ha : at_ < tb.length) : (sgL tb at_ e).length = tb.length := by
  unfold sgL
  split
  · rfl
  · exact negL_len ha
theorem sgL_cols {at_ N : Nat} {e : Int} (ha : at_ < tb.length) (h : ∀ row ∈ tb, row.length = N) : ∀ row ∈ sgL tb at_ e, row.length = N := by
  unfold sgL
  split
  · exact h
  · exact negL_cols ha h
theorem Good.turned (g : Good m many A r cs tb bs w s) {at_ p : Nat} {e : Int} (ha : at_ < m) (hp : p < many) (he : e = 1 ∨ e = -1) :
    Turned m (many + m + 1) (entL tb) (entL (turnedL (sgL tb at_ e) w at_ p)) at_ p w e := by
  have hl : at_ < tb.length := by rw [g.rows]; omega
  have h1 : ∀ i j, j < many + m + 1 → entL (sgL tb at_ e) i j = if i = at_ then e * entL tb at_ j else entL tb i j := fun i j hj => sgL_ent he hl g.cols hj
  refine ⟨fun j hj => ?_, fun i j hi hj hne => ?_⟩
  · rw [entL_turned (by rw [sgL_len hl]; exact hl) (sgL_cols hl g.cols) hj, if_pos rfl, h1 _ _ hj, if_pos rfl]
  · rw [entL_turned (by rw [sgL_len hl, g.rows]; omega) (sgL_cols hl g.cols) hj, if_neg hne, h1 _ _ hj, if_neg hne, h1 _ _ (by omega), if_pos rfl, h1 _ _ (by omega), if_neg hne, h1 _ _ hj, if_pos rfl]
    refine fdiv_of g.tab.pos ?_
    obtain ⟨z, hz⟩ := g.tab.dvd ha (show p < many + m + 1 by omega) hi hj hne
    exact ⟨e * z, by rw [show w * (e * z) = e * (w * z) by grind, ← hz]; grind⟩
theorem Good.costRow (g : Good m many A r cs tb bs w s) {at_ p k : Nat} {e : Int} (ha : at_ < m) (hp : p < many) (he : e = 1 ∨ e = -1) (hk : k < r) {j : Nat} (hj : j < many + m + 1) :
    w * entL (turnedL (sgL tb at_ e) w at_ p) (m + k) j = entL tb (m + k) j * (e * entL tb at_ p) - entL tb (m + k) p * (e * entL tb at_ j) := by
  have hl : at_ < tb.length := by rw [g.rows]; omega
  have h1 : ∀ i j, j < many + m + 1 → entL (sgL tb at_ e) i j = if i = at_ then e * entL tb at_ j else entL tb i j := fun i j hj => sgL_ent he hl g.cols hj
  rw [entL_turned (by rw [sgL_len hl, g.rows]; omega) (sgL_cols hl g.cols) hj, if_neg (show ¬ m + k = at_ by omega), h1 _ _ hj, if_neg (show ¬ m + k = at_ by omega), h1 _ _ (by omega), if_pos rfl, h1 _ _ (by omega), if_neg (show ¬ m + k = at_ by omega), h1 _ _ hj, if_pos rfl]
  exact fdiv_of g.tab.pos (g.tab.costDvd (g.cost k hk) ha (by omega) (g.turned ha hp he) hj)
theorem Good.turn (g : Good m many A r cs tb bs w s) {at_ p : Nat} {e : Int} (ha : at_ < m) (hp : p < many) (he : e = 1 ∨ e = -1) (hs : 0 < e * entL tb at_ p)
    (hf : ∀ i, i < m → 0 ≤ entL (turnedL (sgL tb at_ e) w at_ p) i (many + m)) : Good m many A r cs (turnedL (sgL tb at_ e) w at_ p) (putL bs at_ p) (e * entL tb at_ p) (e * s) := by
  have hl : at_ < tb.length := by rw [g.rows]; omega
  have hb : bf (putL bs at_ p) = put (bf bs) at_ p := bf_put (by rw [g.len]; exact ha)
  have k := g.turned ha hp he
  refine ⟨?_, ?_, ?_, ?_, ?_, ?_, hf⟩
  · rw [turnedL_len, sgL_len hl, g.rows]
  · exact turnedL_cols (by rw [sgL_len hl]; exact hl) (sgL_cols hl g.cols)
  · unfold putL
    rw [put_len (by rw [g.len]; exact ha), g.len]
  · rw [hb]
    exact g.tab.turn ha (by omega) he hs k
  · intro q hq
    rw [hb]
    exact g.tab.costTurn (g.cost q hq) ha (by omega) k fun j hj => g.costRow ha hp he hq hj
  · intro i hi
    rw [hb]
    unfold put
    split
    · omega
    · exact g.low i hi

/-! ### what comes in, what goes out -/
def enterL (row : List Int) (many : Nat) : Option Nat := (List.range many).find? fun j => decide (row.getD j 0 < 0)
theorem enterL_some {row : List Int} {p : Nat} (h : enterL row many = some p) : p < many ∧ row.getD p 0 < 0 ∧ ∀ j, j < p → 0 ≤ row.getD j 0 := by
  unfold enterL at h
  rw [List.find?_range_eq_some] at h
  refine ⟨by simpa using h.2.1, by simpa using h.1, fun j hj => ?_⟩
  have := h.2.2 j hj
  simpa using this
theorem enterL_none {row : List Int} (h : enterL row many = none) : ∀ j, j < many → 0 ≤ row.getD j 0 := by
  intro j hj
  unfold enterL at h
  have := List.find?_eq_none.mp h j (List.mem_range.mpr hj)
  simpa using this
theorem enterL_is {row : List Int} {p : Nat} (hp : p < many) (h : row.getD p 0 < 0) (hl : ∀ j, j < p → 0 ≤ row.getD j 0) : enterL row many = some p := by
  unfold enterL
  rw [List.find?_range_eq_some]
  refine ⟨by simpa using h, by simpa using hp, fun j hj => ?_⟩
  have := hl j hj
  simpa using this
theorem enterL_not {row : List Int} (h : ∀ j, j < many → 0 ≤ row.getD j 0) : enterL row many = none := by
  unfold enterL
  rw [List.find?_eq_none]
  intro j hj
  have := h j (List.mem_range.mp hj)
  simpa using this
def lvStep (tb : List (List Int)) (bs : List Nat) (p tot : Nat) (found : Option Nat) (i : Nat) : Option Nat :=
  if 0 < entL tb i p then
    match found with
    | none => some i
    | some f =>
      if entL tb i tot * entL tb f p - entL tb f tot * entL tb i p < 0 ∨ (entL tb i tot * entL tb f p - entL tb f tot * entL tb i p = 0 ∧ bf bs i < bf bs f) then some i else some f
  else found
def leaveN (tb : List (List Int)) (bs : List Nat) (p tot : Nat) : Nat → Option Nat
  | 0 => none
  | n + 1 => lvStep tb bs p tot (leaveN tb bs p tot n) n
def leaveL (tb : List (List Int)) (bs : List Nat) (p tot : Nat) : Option Nat := leaveN tb bs p tot bs.length
/-- x is at most y as fractions, bs for the like ones -/
theorem leaveN_spec {p tot : Nat} : ∀ {n : Nat}, match leaveN tb bs p tot n with
    | none => ∀ i, i < n → entL tb i p ≤ 0
    | some f => f < n ∧ 0 < entL tb f p ∧ ∀ i, i < n → 0 < entL tb i p → 0 ≤ entL tb i tot * entL tb f p - entL tb f tot * entL tb i p ∧ (entL tb i tot * entL tb f p - entL tb f tot * entL tb i p = 0 → bf bs f ≤ bf bs i) := by
  intro n
  induction n with
  | zero => exact fun i h => absurd h (by omega)
  | succ n ih =>
    rw [leaveN]
    cases e : leaveN tb bs p tot n with
    | none =>
      rw [e] at ih
      unfold lvStep
      by_cases h : 0 < entL tb n p
      · rw [if_pos h]
        refine ⟨by omega, h, fun i hi hp => ?_⟩
        by_cases q : i = n
        · subst q
          exact ⟨by omega, fun _ => Nat.le_refl _⟩
        · have := ih i (by omega)
          omega
      · rw [if_neg h]
        intro i hi
        by_cases q : i = n
        · subst q; omega
        · exact ih i (by omega)
    | some f =>
      rw [e] at ih
      obtain ⟨h1, h2, h3⟩ := ih
      unfold lvStep
      by_cases h : 0 < entL tb n p
      · rw [if_pos h]
        by_cases c : entL tb n tot * entL tb f p - entL tb f tot * entL tb n p < 0 ∨ (entL tb n tot * entL tb f p - entL tb f tot * entL tb n p = 0 ∧ bf bs n < bf bs f)
        · rw [show (match some f with
            | none => some n
            | some f => if entL tb n tot * entL tb f p - entL tb f tot * entL tb n p < 0 ∨ (entL tb n tot * entL tb f p - entL tb f tot * entL tb n p = 0 ∧ bf bs n < bf bs f) then some n else some f) = some n from if_pos c]
          refine ⟨by omega, h, fun i hi hp => ?_⟩
          by_cases q : i = n
          · subst q
            exact ⟨by omega, fun _ => Nat.le_refl _⟩
          · obtain ⟨a1, a2⟩ := h3 i (by omega) hp
            -- n ≤ f ≤ i
            have b1 : entL tb n tot * entL tb f p ≤ entL tb f tot * entL tb n p := by omega
            have b2 : entL tb f tot * entL tb i p ≤ entL tb i tot * entL tb f p := by omega
            have b3 := frac_trans h2 h hp b1 b2
            refine ⟨by omega, fun e0 => ?_⟩
            have b4 : entL tb f tot * entL tb n p ≤ entL tb n tot * entL tb f p := by
              have c1 : entL tb i tot * entL tb n p ≤ entL tb n tot * entL tb i p := by omega
              exact frac_trans hp h2 h b2 c1
            have b5 : entL tb i tot * entL tb f p ≤ entL tb f tot * entL tb i p := by
              have c1 : entL tb i tot * entL tb n p ≤ entL tb n tot * entL tb i p := by omega
              exact frac_trans h hp h2 c1 b1
            have d1 := a2 (by omega)
            rcases c with c | c
            · omega
            · omega
        · rw [show (match some f with
            | none => some n
            | some f => if entL tb n tot * entL tb f p - entL tb f tot * entL tb n p < 0 ∨ (entL tb n tot * entL tb f p - entL tb f tot * entL tb n p = 0 ∧ bf bs n < bf bs f) then some n else some f) = some f from if_neg c]
          refine ⟨by omega, h2, fun i hi hp => ?_⟩
          by_cases q : i = n
          · subst q
            have c1 : ¬ (entL tb i tot * entL tb f p - entL tb f tot * entL tb i p < 0) := fun z => c (.inl z)
            exact ⟨by omega, fun e0 => by
              have : ¬ bf bs i < bf bs f := fun z => c (.inr ⟨e0, z⟩)
              omega⟩
          · exact h3 i (by omega) hp
      · rw [if_neg h]
        refine ⟨by omega, h2, fun i hi hp => ?_⟩
        by_cases q : i = n
        · subst q; omega
        · exact h3 i (by omega) hp
theorem leaveL_none {p tot : Nat} (h : leaveL tb bs p tot = none) : ∀ i, i < bs.length → entL tb i p ≤ 0 := by
  have := leaveN_spec (tb := tb) (bs := bs) (p := p) (tot := tot) (n := bs.length)
  unfold leaveL at h
  rw [h] at this
  exact this
theorem leaveL_some {p tot f : Nat} (h : leaveL tb bs p tot = some f) : f < bs.length ∧ 0 < entL tb f p ∧ ∀ i, i < bs.length → 0 < entL tb i p → 0 ≤ entL tb i tot * entL tb f p - entL tb f tot * entL tb i p ∧ (entL tb i tot * entL tb f p - entL tb f tot * entL tb i p = 0 → bf bs f ≤ bf bs i) := by
  have := leaveN_spec (tb := tb) (bs := bs) (p := p) (tot := tot) (n := bs.length)
  unfold leaveL at h
  rw [h] at this
  exact this

/-! ### turns until nothing comes in -/
structure Stt where
  tb : List (List Int)
  bs : List Nat
  w : Int
def goL (q many tot : Nat) (x : Stt) : Stt :=
  match enterL (x.tb.getD q []) many with
  | none => x
  | some p => match leaveL x.tb x.bs p tot with
    | none => x
    | some at_ => ⟨turnedL x.tb x.w at_ p, putL x.bs at_ p, entL x.tb at_ p⟩
def itL (q many tot : Nat) : Nat → Stt → Stt
  | 0, x => x
  | n + 1, x => goL q many tot (itL q many tot n x)
abbrev GoodS (m many : Nat) (A : Nat → Nat → Int) (r : Nat) (cs : Nat → Nat → Int) (s : Int) (x : Stt) : Prop := Good m many A r cs x.tb x.bs x.w s
theorem goL_step {k p : Nat} {x : Stt} (g : GoodS m many A r cs s x) (hk : k < r) (hp : enterL (x.tb.getD (m + k) []) many = some p) (hl : leaveL x.tb x.bs p (many + m) ≠ none) :
    ∃ at_, leaveL x.tb x.bs p (many + m) = some at_ ∧ goL (m + k) many (many + m) x = ⟨turnedL x.tb x.w at_ p, putL x.bs at_ p, entL x.tb at_ p⟩ ∧
    Step m (many + m + 1) many (m + k) (many + m) (entL x.tb) (entL (turnedL x.tb x.w at_ p)) (bf x.bs) (bf (putL x.bs at_ p)) x.w (entL x.tb at_ p) at_ p ∧
    GoodS m many A r cs s (goL (m + k) many (many + m) x) := by
  obtain ⟨p1, p2, p3⟩ := enterL_some hp
  cases e : leaveL x.tb x.bs p (many + m) with
  | none => exact absurd e hl
  | some at_ =>
    obtain ⟨l1, l2, l3⟩ := leaveL_some e
    rw [g.len] at l1 l3
    have eg : goL (m + k) many (many + m) x = ⟨turnedL x.tb x.w at_ p, putL x.bs at_ p, entL x.tb at_ p⟩ := by
      unfold goL
      rw [hp]
      show (match leaveL x.tb x.bs p (many + m) with
        | none => x
        | some at_ => ⟨turnedL x.tb x.w at_ p, putL x.bs at_ p, entL x.tb at_ p⟩) = _
      rw [e]
    have es : sgL x.tb at_ 1 = x.tb := if_pos rfl
    have k1 := g.turned (e := 1) l1 p1 (.inl rfl)
    rw [es] at k1
    have st : Step m (many + m + 1) many (m + k) (many + m) (entL x.tb) (entL (turnedL x.tb x.w at_ p)) (bf x.bs) (bf (putL x.bs at_ p)) x.w (entL x.tb at_ p) at_ p :=
      ⟨p1, l1, p2, p3, l2, l3, bf_put (by rw [g.len]; exact l1), (Int.one_mul _).symm, k1, fun j hj => by
        have := g.costRow (e := 1) l1 p1 (.inl rfl) hk hj
        rw [es] at this
        exact this⟩
    refine ⟨at_, rfl, eg, st, ?_⟩
    have := g.turn (e := 1) l1 p1 (.inl rfl) (by rw [Int.one_mul]; exact l2) (by
      rw [es]
      exact st.feas g.tab.pos (by omega) g.feas)
    rw [es, Int.one_mul, Int.one_mul] at this
    rw [eg]
    exact this
def Done (q many : Nat) (x : Stt) : Prop := enterL (x.tb.getD q []) many = none
theorem goL_done {q tot : Nat} {x : Stt} (h : Done q many x) : goL q many tot x = x := by
  unfold goL
  rw [show enterL (x.tb.getD q []) many = none from h]
/-- what holds through all turns, and then nothing comes in; P keeps: something goes out -/
theorem rise {k : Nat} {x : Stt} (P : Stt → Prop) (g : GoodS m many A r cs s x) (hP : P x) (hk : k < r) (hu : ∀ i, i < m → many + i < many + m + 1 ∧ A (many + i) = unit i)
    (out : ∀ y p, GoodS m many A r cs s y → P y → enterL (y.tb.getD (m + k) []) many = some p → leaveL y.tb y.bs p (many + m) ≠ none)
    (keep : ∀ y p at_, GoodS m many A r cs s y → P y → enterL (y.tb.getD (m + k) []) many = some p → leaveL y.tb y.bs p (many + m) = some at_ → P (goL (m + k) many (many + m) y)) :
    (∀ n, GoodS m many A r cs s (itL (m + k) many (many + m) n x) ∧ P (itL (m + k) many (many + m) n x)) ∧ ∃ n, Done (m + k) many (itL (m + k) many (many + m) n x) := by
  have all : ∀ n, GoodS m many A r cs s (itL (m + k) many (many + m) n x) ∧ P (itL (m + k) many (many + m) n x) := by
    intro n
    induction n with
    | zero => exact ⟨g, hP⟩
    | succ n ih =>
      rw [itL]
      cases e : enterL ((itL (m + k) many (many + m) n x).tb.getD (m + k) []) many with
      | none => rw [goL_done e]; exact ih
      | some p =>
        obtain ⟨at_, l, eg, st, gg⟩ := goL_step ih.1 hk e (out _ _ ih.1 ih.2 e)
        exact ⟨gg, keep _ _ _ ih.1 ih.2 e l⟩
  refine ⟨all, Classical.byContradiction fun no => ?_⟩
  have ex : ∀ n, ∃ p at_, Step m (many + m + 1) many (m + k) (many + m) (entL (itL (m + k) many (many + m) n x).tb) (entL (itL (m + k) many (many + m) (n + 1) x).tb) (bf (itL (m + k) many (many + m) n x).bs) (bf (itL (m + k) many (many + m) (n + 1) x).bs) (itL (m + k) many (many + m) n x).w (itL (m + k) many (many + m) (n + 1) x).w at_ p := fun n => by
    cases e : enterL ((itL (m + k) many (many + m) n x).tb.getD (m + k) []) many with
    | none => exact absurd ⟨n, e⟩ no
    | some p =>
      obtain ⟨at_, l, eg, st, gg⟩ := goL_step (all n).1 hk e (out _ _ (all n).1 (all n).2 e)
      refine ⟨p, at_, ?_⟩
      rw [itL, eg]
      exact st
  exact no_round (m := m) (N := many + m + 1) (many := many) (q := m + k) (tot := many + m) (A := A) (c := cs k) (s := s) (T := fun n => entL (itL (m + k) many (many + m) n x).tb) (B := fun n => bf (itL (m + k) many (many + m) n x).bs) (w := fun n => (itL (m + k) many (many + m) n x).w)
    (p := fun n => (ex n).choose) (a := fun n => (ex n).choose_spec.choose) (by omega) hu (fun n => (all n).1.tab) (fun n => (all n).1.cost k hk) (fun n => (all n).1.feas) fun n => (ex n).choose_spec.choose_spec
/-- the last of all turns -/
noncomputable def riseL (q many tot : Nat) (x : Stt) : Stt := open Classical in if h : ∃ n, Done q many (itL q many tot n x) then itL q many tot h.choose x else x
theorem itL_stay {q tot : Nat} {x : Stt} {n : Nat} (h : Done q many (itL q many tot n x)) : ∀ d, itL q many tot (n + d) x = itL q many tot n x := by
  intro d
  induction d with
  | zero => rfl
  | succ d ih => rw [← Nat.add_assoc, itL, ih, goL_done h]
theorem riseL_eq {q tot : Nat} {x : Stt} {n : Nat} (h : Done q many (itL q many tot n x)) : riseL q many tot x = itL q many tot n x := by
  have hx : ∃ n, Done q many (itL q many tot n x) := ⟨n, h⟩
  unfold riseL
  rw [dif_pos hx]
  have h2 := hx.choose_spec
  by_cases c : n ≤ hx.choose
  · have := itL_stay h (hx.choose - n)
    rw [show n + (hx.choose - n) = hx.choose by omega] at this
    exact this
  · have := itL_stay h2 (n - hx.choose)
    rw [show hx.choose + (n - hx.choose) = n by omega] at this
    exact this.symm
end
end Lp

set_option linter.all false
set_option maxHeartbeats 1000000
/-! the whole of it: the least numbers' way to a best one, or to a row that shows that there is none -/
namespace Lp
def colA (rows : List (List Int)) (totals : List Int) (many m : Nat) : Nat → Nat → Int := fun j r => if j < many then entL rows r j else if j < many + m then unit (j - many) r else totals.getD r 0
def csL (gains : List Int) (many m : Nat) : Nat → Nat → Int := fun k j => if k = 0 then (if many ≤ j ∧ j < many + m then 1 else 0) else if j < many then - gains.getD j 0 else 0
def row0 (rows : List (List Int)) (totals : List Int) (m i : Nat) : List Int := rows.getD i [] ++ (List.range m).map (fun k => if k = i then (1 : Int) else 0) ++ [totals.getD i 0]
def cost1L (rows : List (List Int)) (totals : List Int) (many m : Nat) : List Int := (List.range many).map (fun k => - (rows.map fun row => row.getD k 0).sum) ++ List.replicate m 0 ++ [- totals.sum]
def cost2L (gains : List Int) (m : Nat) : List Int := gains.map (fun x => - x) ++ List.replicate (m + 1) 0
def tb0L (rows : List (List Int)) (totals gains : List Int) (many m : Nat) : List (List Int) := (List.range m).map (row0 rows totals m) ++ [cost1L rows totals many m] ++ [cost2L gains m]
def bs0L (many m : Nat) : List Nat := (List.range m).map fun i => many + i
def st0 (rows : List (List Int)) (totals gains : List Int) (many m : Nat) : Stt := ⟨tb0L rows totals gains many m, bs0L many m, 1⟩
/-- one row's artificial place put out -/
def poS (many at_ : Nat) (x : Stt) : Stt :=
  match (List.range many).find? fun p => decide (entL x.tb at_ p ≠ 0) with
  | none => x
  | some p => if many ≤ bf x.bs at_ then ⟨turnedL (sgL x.tb at_ (if entL x.tb at_ p < 0 then -1 else 1)) x.w at_ p, putL x.bs at_ p, (if entL x.tb at_ p < 0 then -1 else 1) * entL x.tb at_ p⟩ else x
def poN (many : Nat) (x : Stt) : Nat → Stt
  | 0 => x
  | n + 1 => poS many n (poN many x n)
def wtN (x : Stt) (many tot : Nat) : Nat → List Int
  | 0 => List.replicate many 0
  | n + 1 => if bf x.bs n < many then (wtN x many tot n).set (bf x.bs n) (entL x.tb n tot) else wtN x many tot n
inductive Res where
  | none (w : Int) (z : List Int)
  | best (w : Int) (ws ds : List Int)
  deriving DecidableEq
noncomputable def s1L (rows : List (List Int)) (totals gains : List Int) (many m : Nat) : Stt := riseL m many (many + m) (st0 rows totals gains many m)
noncomputable def s3L (rows : List (List Int)) (totals gains : List Int) (many m : Nat) : Stt := riseL (m + 1) many (many + m) (poN many (s1L rows totals gains many m) m)
noncomputable def solvedL (rows : List (List Int)) (totals gains : List Int) (many m : Nat) : Res :=
  if entL (s1L rows totals gains many m).tb m (many + m) ≠ 0 then .none (s1L rows totals gains many m).w ((List.range m).map fun k => entL (s1L rows totals gains many m).tb m (many + k) - (s1L rows totals gains many m).w)
  else .best (s3L rows totals gains many m).w (wtN (s3L rows totals gains many m) many (many + m) m) ((List.range m).map fun k => entL (s3L rows totals gains many m).tb (m + 1) (many + k))
/-- what is asked of the numbers -/
structure Fit (rows : List (List Int)) (totals gains : List Int) (many m : Nat) : Prop where
  rl : rows.length = m
  cl : ∀ row ∈ rows, row.length = many
  tl : totals.length = m
  gl : gains.length = many
  tot : ∀ r, r < m → 0 ≤ totals.getD r 0
  bd : ∀ d : Nat → Int, (∀ j, j < many → 0 ≤ d j) → (∀ r, r < m → sm many (fun j => d j * entL rows r j) = 0) → sm many (fun j => gains.getD j 0 * d j) ≤ 0
theorem sum_sm : ∀ {xs : List Int}, xs.sum = sm xs.length fun i => xs.getD i 0 := by
  intro xs
  have key : ∀ (n : Nat) (xs : List Int), xs.length = n → xs.sum = sm n fun i => xs.getD i 0 := by
    intro n
    induction n with
    | zero =>
      intro xs h
      rw [List.length_eq_zero_iff.mp h]; rfl
    | succ n ih =>
      intro xs h
      have hne : xs ≠ [] := fun e => by rw [e] at h; cases h
      have e := List.dropLast_concat_getLast hne
      have hl : xs.dropLast.length = n := by rw [List.length_dropLast]; omega
      rw [← e, List.sum_append, ih _ hl, sm]
      congr 1
      · refine sm_congr fun i hi => ?_
        rw [List.getD_eq_getElem?_getD, List.getD_eq_getElem?_getD, List.getElem?_append_left (by omega)]
      · rw [List.getD_eq_getElem?_getD, List.getElem?_append_right (by omega), hl, Nat.sub_self]
        simp
  exact key _ _ rfl
theorem sum_map_sm {α : Type} {xs : List α} {f : α → Int} {d : α} : (xs.map f).sum = sm xs.length fun i => f (xs.getD i d) := by
  rw [sum_sm, List.length_map]
  refine sm_congr fun i hi => ?_
  rw [List.getD_eq_getElem?_getD, List.getElem?_map, List.getD_eq_getElem?_getD, List.getElem?_eq_getElem hi]
  rfl
section
variable {rows : List (List Int)} {totals gains : List Int} {many m : Nat}
theorem units0 {r : Nat} (h : r < m) : many + r < many + m + 1 ∧ colA rows totals many m (many + r) = unit r := by
  refine ⟨by omega, ?_⟩
  funext s
  unfold colA
  rw [if_neg (by omega), if_pos (by omega), Nat.add_sub_cancel_left]
theorem getD_app {α : Type} {xs ys : List α} {i : Nat} {d : α} : (xs ++ ys).getD i d = if i < xs.length then xs.getD i d else ys.getD (i - xs.length) d := by
  rw [List.getD_eq_getElem?_getD]
  split
  · rw [List.getElem?_append_left (by assumption), List.getD_eq_getElem?_getD]
  · rw [List.getElem?_append_right (by omega), List.getD_eq_getElem?_getD]
theorem getD_rep {n i : Nat} : (List.replicate n (0 : Int)).getD i 0 = 0 := by
  rw [List.getD_eq_getElem?_getD, List.getElem?_replicate]
  split <;> rfl
theorem ent0 (h : Fit rows totals gains many m) {i j : Nat} (hi : i < m) (hj : j < many + m + 1) : entL (tb0L rows totals gains many m) i j = colA rows totals many m j i := by
  have hl : (rows.getD i []).length = many := h.cl _ (getD_mem (by rw [h.rl]; exact hi))
  unfold entL tb0L
  rw [List.append_assoc, getD_app, if_pos (by simpa using hi), getD_rm hi]
  unfold row0 colA
  rw [List.append_assoc, getD_app, hl]
  by_cases a : j < many
  · rw [if_pos a, if_pos a]; rfl
  · rw [if_neg a, if_neg a, getD_app, List.length_map, List.length_range]
    by_cases b : j < many + m
    · rw [if_pos (show j - many < m by omega), if_pos b, getD_rm (by omega)]
      unfold unit
      by_cases e : j - many = i
      · rw [if_pos e, if_pos e.symm]
      · rw [if_neg e, if_neg (Ne.symm e)]
    · rw [if_neg (show ¬ j - many < m by omega), if_neg b, show j - many - m = 0 by omega]; rfl
theorem ent0c1 (h : Fit rows totals gains many m) {j : Nat} (hj : j < many + m + 1) : entL (tb0L rows totals gains many m) m j = if j < many then - sm m (fun i => entL rows i j) else if j < many + m then 0 else - sm m fun i => totals.getD i 0 := by
  unfold entL tb0L
  rw [List.append_assoc, getD_app, if_neg (by simp), List.length_map, List.length_range, Nat.sub_self]
  show (cost1L rows totals many m).getD j 0 = _
  unfold cost1L
  rw [List.append_assoc, getD_app, List.length_map, List.length_range]
  by_cases a : j < many
  · rw [if_pos a, if_pos a, getD_rm a, sum_map_sm (d := []), h.rl]
  · rw [if_neg a, if_neg a, getD_app, List.length_replicate]
    by_cases b : j < many + m
    · rw [if_pos (by omega), if_pos b, getD_rep]
    · rw [if_neg (by omega), if_neg b, show j - many - m = 0 by omega]
      show - totals.sum = _
      rw [sum_sm, h.tl]
theorem ent0c2 (h : Fit rows totals gains many m) {j : Nat} (hj : j < many + m + 1) : entL (tb0L rows totals gains many m) (m + 1) j = if j < many then - gains.getD j 0 else 0 := by
  unfold entL tb0L
  rw [List.append_assoc, getD_app, if_neg (by simp), List.length_map, List.length_range, show m + 1 - m = 1 by omega]
  show (cost2L gains m).getD j 0 = _
  unfold cost2L
  rw [getD_app, List.length_map, h.gl]
  split
  · rename_i a
    rw [List.getD_eq_getElem?_getD, List.getElem?_map, List.getD_eq_getElem?_getD, List.getElem?_eq_getElem (by rw [h.gl]; exact a)]
    rfl
  · exact getD_rep
theorem bf0 {i : Nat} (h : i < m) : bf (bs0L many m) i = many + i := getD_rm h
theorem good0 (h : Fit rows totals gains many m) : GoodS m many (colA rows totals many m) 2 (csL gains many m) 1 (st0 rows totals gains many m) := by
  have hcol : ∀ c, c < m → colA rows totals many m (bf (bs0L many m) c) = unit c := fun c hc => by rw [bf0 hc]; exact (units0 hc).2
  refine ⟨?_, ?_, ?_, ?_, ?_, ?_, ?_⟩
  · simp [st0, tb0L]
  · intro row hr
    unfold st0 tb0L at hr
    rcases List.mem_append.mp hr with hr | hr
    · rcases List.mem_append.mp hr with hr | hr
      · obtain ⟨i, hi, rfl⟩ := List.mem_map.mp hr
        have hi : i < m := by simpa using hi
        have hl : (rows.getD i []).length = many := h.cl _ (getD_mem (by rw [h.rl]; exact hi))
        unfold row0
        rw [List.length_append, List.length_append, List.length_map, List.length_range, hl]
        rfl
      · rw [List.mem_singleton.mp hr]
        simp [cost1L]
        omega
    · rw [List.mem_singleton.mp hr]
      simp [cost2L, h.gl]
      omega
  · simp [st0, bs0L]
  · refine ⟨show (0 : Int) < 1 by decide, .inl rfl, ?_, ?_, ?_, ?_⟩
    · intro i hi
      show bf (bs0L many m) i < _
      rw [bf0 hi]; omega
    · show (1 : Int) = 1 * dt m _
      rw [dt_congr (g := fun c => unit c) fun c r hc _ => by
        show colA rows totals many m (bf (bs0L many m) c) r = _
        rw [hcol c hc], dt_unit]
      rfl
    · intro i j hi hj
      show entL (tb0L rows totals gains many m) i j = _
      rw [ent0 h hi hj, Int.one_mul]
      have e := dt_sum (n := m) (f := fun c => colA rows totals many m (bf (bs0L many m) c)) (i := i) (k := m) (w := 1) (v := colA rows totals many m j) (t := colA rows totals many m j) (u := fun r => unit r) hi (fun r hr => by
        rw [Int.one_mul, sm_one (k := r) hr]
        · unfold unit; rw [if_pos rfl, Int.mul_one]
        · intro l hl hne
          unfold unit; rw [if_neg (fun q => hne q.symm), Int.mul_zero])
      show _ = dt m (put (fun c => colA rows totals many m (bf (bs0L many m) c)) i (colA rows totals many m j))
      rw [Int.one_mul] at e
      rw [e, sm_one (k := i) hi]
      · rw [show dt m (put (fun c => colA rows totals many m (bf (bs0L many m) c)) i (unit i)) = 1 by
          rw [dt_congr (g := fun c => unit c), dt_unit]
          intro c r hc _
          unfold put
          split
          · rename_i q; rw [q]
          · show colA rows totals many m (bf (bs0L many m) c) r = _
            rw [hcol c hc], Int.mul_one]
      · intro l hl hne
        rw [dt_eq0 hi hl (Ne.symm hne), Int.mul_zero]
        rw [put_at, put_ne hne]
        exact (hcol l hl).symm
    · intro j r hj hr
      show 1 * _ = sm m fun i => entL (tb0L rows totals gains many m) i j * colA rows totals many m (bf (bs0L many m) i) r
      rw [Int.one_mul, sm_one (k := r) hr, ent0 h hr hj, hcol r hr]
      · unfold unit; rw [if_pos rfl, Int.mul_one]
      · intro l hl hne
        rw [hcol l hl]
        unfold unit; rw [if_neg (fun q => hne q.symm), Int.mul_zero]
  · intro k hk j hj
    show entL (tb0L rows totals gains many m) (m + k) j = 1 * csL gains many m k j - sm m fun i => csL gains many m k (bf (bs0L many m) i) * entL (tb0L rows totals gains many m) i j
    by_cases k0 : k = 0
    · subst k0
      rw [Nat.add_zero, ent0c1 h hj]
      have e : sm m (fun i => csL gains many m 0 (bf (bs0L many m) i) * entL (tb0L rows totals gains many m) i j) = sm m fun i => colA rows totals many m j i := sm_congr fun i hi => by
        rw [ent0 h hi hj, bf0 hi]
        unfold csL
        rw [if_pos rfl, if_pos (by omega), Int.one_mul]
      rw [e]
      unfold csL
      rw [if_pos rfl]
      by_cases a : j < many
      · rw [if_pos a, if_neg (by omega), sm_congr (f := fun i => colA rows totals many m j i) (g := fun i => entL rows i j) fun i _ => by unfold colA; rw [if_pos a]]
        omega
      · rw [if_neg a]
        by_cases b : j < many + m
        · rw [if_pos b, if_pos (by omega), sm_one (k := j - many) (by omega)]
          · unfold colA unit
            rw [if_neg a, if_pos b, if_pos rfl]; rfl
          · intro i hi hne
            unfold colA unit
            rw [if_neg a, if_pos b, if_neg hne]
        · rw [if_neg b, if_neg (by omega), sm_congr (f := fun i => colA rows totals many m j i) (g := fun i => totals.getD i 0) fun i _ => by unfold colA; rw [if_neg a, if_neg b]]
          omega
    · have k1 : k = 1 := by omega
      subst k1
      rw [ent0c2 h hj, sm_zero]
      · unfold csL
        rw [if_neg (show ¬ (1 : Nat) = 0 by decide)]
        omega
      · intro i hi
        rw [bf0 hi]
        unfold csL
        rw [if_neg (by decide), if_neg (by omega), Int.zero_mul]
  · intro i hi
    show bf (bs0L many m) i < _
    rw [bf0 hi]; omega
  · intro i hi
    show 0 ≤ entL (tb0L rows totals gains many m) i (many + m)
    rw [ent0 h hi (by omega)]
    unfold colA
    rw [if_neg (by omega), if_neg (by omega)]
    exact h.tot i hi
abbrev GoodF (rows : List (List Int)) (totals gains : List Int) (many m : Nat) (s : Int) (x : Stt) : Prop := GoodS m many (colA rows totals many m) 2 (csL gains many m) s x
/-- the first way: something goes out -/
theorem out1 {s : Int} {y : Stt} {p : Nat} (g : GoodF rows totals gains many m s y) (hp : enterL (y.tb.getD m []) many = some p) : leaveL y.tb y.bs p (many + m) ≠ none := by
  intro hn
  obtain ⟨p1, p2, p3⟩ := enterL_some hp
  have a := leaveL_none hn
  rw [g.len] at a
  have e := g.cost 0 (by decide) p (by omega)
  rw [show csL gains many m 0 p = 0 by unfold csL; rw [if_pos rfl, if_neg (by omega)], Int.mul_zero, Int.zero_sub, Nat.add_zero] at e
  have : sm m (fun i => csL gains many m 0 (bf y.bs i) * entL y.tb i p) ≤ sm m fun _ => 0 := sm_le fun i hi => by
    unfold csL
    rw [if_pos rfl]
    split
    · rw [Int.one_mul]; exact a i hi
    · rw [Int.zero_mul]; exact Int.le_refl _
  rw [sm_zero fun _ _ => rfl] at this
  have p2' : entL y.tb m p < 0 := p2
  omega
/-- the artificial places stand at 0 -/
structure P2 (many m : Nat) (y : Stt) : Prop where
  zero : ∀ i, i < m → many ≤ bf y.bs i → entL y.tb i (many + m) = 0
  row : ∀ i p, i < m → many ≤ bf y.bs i → p < many → entL y.tb i p = 0
theorem out2 {s : Int} {y : Stt} {p : Nat} (h : Fit rows totals gains many m) (g : GoodF rows totals gains many m s y) (hP : P2 many m y) (hp : enterL (y.tb.getD (m + 1) []) many = some p) : leaveL y.tb y.bs p (many + m) ≠ none := by
  intro hn
  obtain ⟨p1, p2, p3⟩ := enterL_some hp
  have a := leaveL_none hn
  rw [g.len] at a
  have hw := g.tab.pos
  -- the way
  let d : Nat → Int := fun j => (if j = p then y.w else 0) + sm m fun i => if bf y.bs i = j then - entL y.tb i p else 0
  have hd : ∀ j, j < many → 0 ≤ d j := fun j hj => by
    have h1 : 0 ≤ sm m fun i => if bf y.bs i = j then - entL y.tb i p else 0 := sm_nonneg fun i hi => by
      have := a i hi
      split <;> omega
    have h2 : (0 : Int) ≤ if j = p then y.w else 0 := by split <;> omega
    show 0 ≤ (if j = p then y.w else 0) + sm m fun i => if bf y.bs i = j then - entL y.tb i p else 0
    omega
  have sumd : ∀ f : Nat → Int, (∀ i, i < m → many ≤ bf y.bs i → f (bf y.bs i) * entL y.tb i p = 0) → sm many (fun j => f j * d j) = f p * y.w - sm m fun i => f (bf y.bs i) * entL y.tb i p := by
    intro f hf
    have e1 : sm many (fun j => f j * d j) = sm many (fun j => (if j = p then f p * y.w else 0)) + sm many fun j => sm m fun i => if bf y.bs i = j then - (f (bf y.bs i) * entL y.tb i p) else 0 := by
      rw [← sm_add]
      refine sm_congr fun j hj => ?_
      show f j * ((if j = p then y.w else 0) + sm m fun i => if bf y.bs i = j then - entL y.tb i p else 0) = _
      rw [Int.mul_add, ← sm_mul]
      congr 1
      · split
        · rename_i e; rw [e]
        · rw [Int.mul_zero]
      · refine sm_congr fun i hi => ?_
        split
        · rename_i e; rw [e, Int.mul_neg]
        · rw [Int.mul_zero]
    rw [e1, sm_one (k := p) p1 (fun j _ hne => if_neg hne), if_pos rfl, sm_comm]
    have e2 : sm m (fun i => sm many fun j => if bf y.bs i = j then - (f (bf y.bs i) * entL y.tb i p) else 0) = sm m fun i => - (f (bf y.bs i) * entL y.tb i p) := sm_congr fun i hi => by
      by_cases q : bf y.bs i < many
      · rw [sm_one (k := bf y.bs i) q (fun j _ hne => if_neg (Ne.symm hne)), if_pos rfl]
      · rw [sm_zero fun j hj => if_neg (by omega), hf i hi (by omega)]; rfl
    rw [e2, sm_neg]
    omega
  have hz : ∀ r, r < m → sm many (fun j => d j * entL rows r j) = 0 := fun r hr => by
    have e := sumd (fun j => colA rows totals many m j r) fun i hi hge => by rw [hP.row i p hi hge p1, Int.mul_zero]
    have e3 := g.tab.rel p r (by omega) hr
    have e4 : sm m (fun i => colA rows totals many m (bf y.bs i) r * entL y.tb i p) = y.w * colA rows totals many m p r := by
      rw [e3]; exact sm_congr fun i _ => Int.mul_comm _ _
    rw [sm_congr (g := fun j => colA rows totals many m j r * d j) fun j hj => by unfold colA; rw [if_pos hj, Int.mul_comm], e, e4]
    grind
  have hb := h.bd d hd hz
  have e5 := sumd (fun j => gains.getD j 0) fun i hi hge => by rw [hP.row i p hi hge p1, Int.mul_zero]
  rw [e5] at hb
  have e6 := g.cost 1 (by decide) p (by omega)
  have e7 : sm m (fun i => csL gains many m 1 (bf y.bs i) * entL y.tb i p) = - sm m fun i => gains.getD (bf y.bs i) 0 * entL y.tb i p := by
    rw [← sm_neg]
    refine sm_congr fun i hi => ?_
    unfold csL
    rw [if_neg (by decide)]
    split
    · rw [Int.neg_mul]
    · rw [hP.row i p hi (by omega) p1]; simp
  rw [e7, show csL gains many m 1 p = - gains.getD p 0 by unfold csL; rw [if_neg (by decide), if_pos p1]] at e6
  have p2' : entL y.tb (m + 1) p < 0 := p2
  rw [e6, Int.mul_neg, Int.mul_comm y.w] at p2'
  omega
theorem keep2 {s : Int} {y : Stt} {p at_ : Nat} (g : GoodF rows totals gains many m s y) (hP : P2 many m y) (hp : enterL (y.tb.getD (m + 1) []) many = some p) (hl : leaveL y.tb y.bs p (many + m) = some at_) : P2 many m (goL (m + 1) many (many + m) y) := by
  obtain ⟨a2, l, eg, st, gg⟩ := goL_step g (k := 1) (by decide) hp (by rw [hl]; intro h; cases h)
  rw [hl] at l
  cases l
  rw [eg]
  have hw := g.tab.pos
  have hs := st.size
  have key : ∀ i j, i < m → many ≤ bf (putL y.bs at_ p) i → j < many + m + 1 → entL y.tb i j = 0 → i ≠ at_ → entL (turnedL y.tb y.w at_ p) i j = 0 := fun i j hi hb hj hz hne => by
    have e := st.turned.oth i j hi hj hne
    rw [st.bas, put_ne hne] at hb
    rw [hz, hP.row i p hi hb st.pm, Int.zero_mul, Int.zero_mul] at e
    rcases Int.mul_eq_zero.mp e with h | h
    · omega
    · exact h
  refine ⟨fun i hi hb => ?_, fun i q hi hb hq => ?_⟩
  · by_cases e : i = at_
    · rw [show (Stt.mk (turnedL y.tb y.w at_ p) (putL y.bs at_ p) (entL y.tb at_ p)).bs = putL y.bs at_ p from rfl, st.bas, e, put_at] at hb
      have := st.pm
      omega
    · have hb' := hb
      rw [show (Stt.mk (turnedL y.tb y.w at_ p) (putL y.bs at_ p) (entL y.tb at_ p)).bs = putL y.bs at_ p from rfl, st.bas, put_ne e] at hb'
      exact key i _ hi hb (by omega) (hP.zero i hi hb') e
  · by_cases e : i = at_
    · rw [show (Stt.mk (turnedL y.tb y.w at_ p) (putL y.bs at_ p) (entL y.tb at_ p)).bs = putL y.bs at_ p from rfl, st.bas, e, put_at] at hb
      have := st.pm
      omega
    · have hb' := hb
      rw [show (Stt.mk (turnedL y.tb y.w at_ p) (putL y.bs at_ p) (entL y.tb at_ p)).bs = putL y.bs at_ p from rfl, st.bas, put_ne e] at hb'
      exact key i _ hi hb (by omega) (hP.row i q hi hb' hq) e
/-- what holds while artificial places are put out -/
structure Po (rows : List (List Int)) (totals gains : List Int) (many m n : Nat) (y : Stt) : Prop where
  good : ∃ s, GoodF rows totals gains many m s y
  zero : ∀ i, i < m → many ≤ bf y.bs i → entL y.tb i (many + m) = 0
  row : ∀ i p, i < n → i < m → many ≤ bf y.bs i → p < many → entL y.tb i p = 0
theorem poS_ok {n : Nat} {y : Stt} (hn : n < m) (h : Po rows totals gains many m n y) : Po rows totals gains many m (n + 1) (poS many n y) := by
  obtain ⟨s, g⟩ := h.good
  unfold poS
  cases e : (List.range many).find? fun p => decide (entL y.tb n p ≠ 0) with
  | none =>
    have hz := List.find?_eq_none.mp e
    refine ⟨h.good, h.zero, fun i p h1 h2 h3 h4 => ?_⟩
    by_cases q : i = n
    · have := hz p (List.mem_range.mpr h4)
      rw [q]
      simpa using this
    · exact h.row i p (by omega) h2 h3 h4
  | some p =>
    rw [List.find?_range_eq_some] at e
    have hp : p < many := by simpa using e.2.1
    have hne : entL y.tb n p ≠ 0 := by simpa using e.1
    show Po rows totals gains many m (n + 1) (if many ≤ bf y.bs n then _ else y)
    by_cases c : many ≤ bf y.bs n
    · rw [if_pos c]
      have hz := h.zero n hn c
      have he : (if entL y.tb n p < 0 then (-1 : Int) else 1) = 1 ∨ (if entL y.tb n p < 0 then (-1 : Int) else 1) = -1 := by split <;> simp
      have hs : 0 < (if entL y.tb n p < 0 then (-1 : Int) else 1) * entL y.tb n p := by split <;> omega
      generalize (if entL y.tb n p < 0 then (-1 : Int) else 1) = ε at he hs ⊢
      have k := g.turned hn hp he
      have hw := g.tab.pos
      have hl : n < y.bs.length := by rw [g.len]; exact hn
      have h0 : ∀ i, i < m → (i ≠ n → y.w * entL (turnedL (sgL y.tb n ε) y.w n p) i (many + m) = entL y.tb i (many + m) * (ε * entL y.tb n p)) ∧ (i = n → entL (turnedL (sgL y.tb n ε) y.w n p) i (many + m) = 0) := fun i hi => by
        refine ⟨fun hne => ?_, fun q => ?_⟩
        · rw [k.oth i _ hi (by omega) hne, hz, Int.mul_zero, Int.mul_zero, Int.sub_zero]
        · rw [q, k.row _ (by omega), hz, Int.mul_zero]
      refine ⟨⟨_, g.turn hn hp he hs fun i hi => ?_⟩, fun i hi hb => ?_, fun i q h1 h2 hb h4 => ?_⟩
      · by_cases q : i = n
        · rw [(h0 i hi).2 q]; exact Int.le_refl _
        · have := Int.mul_nonneg (g.feas i hi) (Int.le_of_lt hs)
          rw [← (h0 i hi).1 q] at this
          exact Int.nonneg_of_mul_nonneg_right this hw
      · by_cases q : i = n
        · exact (h0 i hi).2 q
        · rw [show (Stt.mk (turnedL (sgL y.tb n ε) y.w n p) (putL y.bs n p) (ε * entL y.tb n p)).bs = putL y.bs n p from rfl, bf_put hl, put_ne q] at hb
          have e := (h0 i hi).1 q
          rw [h.zero i hi hb, Int.zero_mul] at e
          rcases Int.mul_eq_zero.mp e with h | h
          · omega
          · exact h
      · by_cases qn : i = n
        · rw [show (Stt.mk (turnedL (sgL y.tb n ε) y.w n p) (putL y.bs n p) (ε * entL y.tb n p)).bs = putL y.bs n p from rfl, bf_put hl, qn, put_at] at hb
          omega
        · rw [show (Stt.mk (turnedL (sgL y.tb n ε) y.w n p) (putL y.bs n p) (ε * entL y.tb n p)).bs = putL y.bs n p from rfl, bf_put hl, put_ne qn] at hb
          have e := k.oth i q h2 (by omega) qn
          rw [h.row i q (by omega) h2 hb h4, h.row i p (by omega) h2 hb hp, Int.zero_mul, Int.zero_mul] at e
          rcases Int.mul_eq_zero.mp e with h | h
          · omega
          · exact h
    · rw [if_neg c]
      refine ⟨h.good, h.zero, fun i q h1 h2 h3 h4 => ?_⟩
      by_cases z : i = n
      · rw [z] at h3
        omega
      · exact h.row i q (by omega) h2 h3 h4
/-- everything on the way -/
structure Way (rows : List (List Int)) (totals gains : List Int) (many m : Nat) : Prop where
  all1 : ∀ n, GoodF rows totals gains many m 1 (itL m many (many + m) n (st0 rows totals gains many m))
  done1 : ∃ n, Done m many (itL m many (many + m) n (st0 rows totals gains many m))
  all2 : entL (s1L rows totals gains many m).tb m (many + m) = 0 → ∀ n, n ≤ m → Po rows totals gains many m n (poN many (s1L rows totals gains many m) n)
  all3 : entL (s1L rows totals gains many m).tb m (many + m) = 0 → ∀ n, (∃ s, GoodF rows totals gains many m s (itL (m + 1) many (many + m) n (poN many (s1L rows totals gains many m) m))) ∧ P2 many m (itL (m + 1) many (many + m) n (poN many (s1L rows totals gains many m) m))
  done3 : entL (s1L rows totals gains many m).tb m (many + m) = 0 → ∃ n, Done (m + 1) many (itL (m + 1) many (many + m) n (poN many (s1L rows totals gains many m) m))
theorem way (h : Fit rows totals gains many m) : Way rows totals gains many m := by
  have r1 := rise (k := 0) (fun _ => True) (good0 h) True.intro (by decide) (fun i hi => units0 hi) (fun y p g _ e => out1 g e) (fun _ _ _ _ _ _ _ => True.intro)
  obtain ⟨all1, n1, done1⟩ := r1
  have e1 : s1L rows totals gains many m = itL m many (many + m) n1 (st0 rows totals gains many m) := riseL_eq done1
  have po : entL (s1L rows totals gains many m).tb m (many + m) = 0 → ∀ n, n ≤ m → Po rows totals gains many m n (poN many (s1L rows totals gains many m) n) := by
    intro hz n
    induction n with
    | zero =>
      intro _
      have g := (all1 n1).1
      rw [Nat.add_zero, ← e1] at g
      refine ⟨⟨_, g⟩, ?_, fun i p hi => absurd hi (by omega)⟩
      have e := g.cost 0 (by decide) (many + m) (by omega)
      rw [Nat.add_zero] at e
      have e' : (0 : Int) = (s1L rows totals gains many m).w * csL gains many m 0 (many + m) - sm m fun i => csL gains many m 0 (bf (s1L rows totals gains many m).bs i) * entL (s1L rows totals gains many m).tb i (many + m) := by rw [← e, hz]
      rw [show csL gains many m 0 (many + m) = 0 by unfold csL; rw [if_pos rfl, if_neg (by omega)], Int.mul_zero, Int.zero_sub] at e'
      have nn : ∀ i, i < m → 0 ≤ csL gains many m 0 (bf (s1L rows totals gains many m).bs i) * entL (s1L rows totals gains many m).tb i (many + m) := fun i hi => by
        refine Int.mul_nonneg ?_ (g.feas i hi)
        unfold csL
        rw [if_pos rfl]
        split <;> decide
      intro i hi hb
      have z := sm_eq0 nn (by omega) i hi
      rw [show csL gains many m 0 (bf (s1L rows totals gains many m).bs i) = 1 by
        unfold csL
        rw [if_pos rfl, if_pos ⟨hb, g.low i hi⟩], Int.one_mul] at z
      exact z
    | succ n ih =>
      intro hn
      rw [poN]
      exact poS_ok (by omega) (ih (by omega))
  refine ⟨fun n => ?_, ⟨n1, done1⟩, po, ?_, ?_⟩
  · have := (all1 n).1
    rw [Nat.add_zero] at this
    exact this
  all_goals
    intro hz
    obtain ⟨⟨s, g⟩, z, rw_⟩ := po hz m (Nat.le_refl _)
    have r3 := rise (k := 1) (P2 many m) g ⟨z, fun i p hi hb hp => rw_ i p hi hi hb hp⟩ (by decide) (fun i hi => units0 hi) (fun y p g hP e => out2 h g hP e) (fun y p at_ g hP e l => keep2 g hP e l)
  · exact fun n => ⟨⟨s, (r3.1 n).1⟩, (r3.1 n).2⟩
  · exact r3.2
theorem wtN_len {x : Stt} {tot : Nat} : ∀ {n : Nat}, (wtN x many tot n).length = many := by
  intro n
  induction n with
  | zero => simp [wtN]
  | succ n ih =>
    rw [wtN]
    split
    · rw [List.length_set, ih]
    · exact ih
theorem wtN_get {x : Stt} {tot : Nat} : ∀ {n : Nat} {j : Nat}, (∀ i k, i < n → k < n → bf x.bs i = bf x.bs k → i = k) → j < many → (wtN x many tot n).getD j 0 = sm n fun i => if bf x.bs i = j then entL x.tb i tot else 0 := by
  intro n
  induction n with
  | zero => intro j _ _; rw [wtN, getD_rep]; rfl
  | succ n ih =>
    intro j hi hj
    have e := ih (j := j) (fun i k h1 h2 => hi i k (by omega) (by omega)) hj
    rw [wtN, sm]
    split
    · rename_i c
      rw [List.getD_eq_getElem?_getD, List.getElem?_set]
      by_cases q : bf x.bs n = j
      · rw [if_pos q, if_pos (by rw [wtN_len]; exact c), if_pos q, sm_zero]
        · show entL x.tb n tot = _
          omega
        · intro i h
          exact if_neg fun e => absurd (hi i n (by omega) (by omega) (by rw [e, q])) (by omega)
      · rw [if_neg q, if_neg q, ← List.getD_eq_getElem?_getD, e]; omega
    · rename_i c
      rw [e, if_neg (show ¬ bf x.bs n = j by omega)]; omega
/-- what the answer says -/
def Says (rows : List (List Int)) (totals gains : List Int) (many m : Nat) : Res → Prop
  | .none w z => 0 < w ∧ z.length = m ∧ (∀ j, j < many → 0 ≤ sm m fun r => entL rows r j * z.getD r 0) ∧ (sm m fun r => totals.getD r 0 * z.getD r 0) < 0
  | .best w ws ds => 0 < w ∧ ws.length = many ∧ ds.length = m ∧ (∀ j, j < many → 0 ≤ ws.getD j 0) ∧ (∀ r, r < m → sm many (fun j => entL rows r j * ws.getD j 0) = w * totals.getD r 0) ∧
    (∀ j, j < many → w * gains.getD j 0 ≤ sm m fun r => entL rows r j * ds.getD r 0) ∧ (sm m fun r => totals.getD r 0 * ds.getD r 0) = sm many fun j => gains.getD j 0 * ws.getD j 0
theorem solvedL_says (h : Fit rows totals gains many m) : Says rows totals gains many m (solvedL rows totals gains many m) := by
  have W := way h
  obtain ⟨n1, d1⟩ := W.done1
  have e1 : s1L rows totals gains many m = itL m many (many + m) n1 (st0 rows totals gains many m) := riseL_eq d1
  have g1 := W.all1 n1
  rw [← e1] at g1 d1
  unfold solvedL
  by_cases c : entL (s1L rows totals gains many m).tb m (many + m) ≠ 0
  · rw [if_pos c]
    have hz : ∀ r, r < m → ((List.range m).map fun k => entL (s1L rows totals gains many m).tb m (many + k) - (s1L rows totals gains many m).w).getD r 0 = - dual m (csL gains many m 0) (entL (s1L rows totals gains many m).tb) (bf (s1L rows totals gains many m).bs) many r := fun r hr => by
      rw [getD_rm hr]
      have e := g1.tab.costDual (g1.cost 0 (by decide)) (many := many) (fun r hr => units0 hr) (j := many + r) (by omega)
      rw [Nat.add_zero] at e
      rw [e, show csL gains many m 0 (many + r) = 1 by unfold csL; rw [if_pos rfl, if_pos (by omega)], sm_one (k := r) hr]
      · rw [(units0 (rows := rows) (totals := totals) (many := many) hr).2]
        unfold unit
        rw [if_pos rfl]; omega
      · intro i hi hne
        rw [(units0 (rows := rows) (totals := totals) (many := many) hr).2]
        unfold unit
        rw [if_neg hne, Int.zero_mul]
    refine ⟨g1.tab.pos, by simp, fun j hj => ?_, ?_⟩
    · have e := g1.tab.costDual (g1.cost 0 (by decide)) (many := many) (fun r hr => units0 hr) (j := j) (by omega)
      rw [Nat.add_zero, show csL gains many m 0 j = 0 by unfold csL; rw [if_pos rfl, if_neg (by omega)], Int.mul_zero, Int.zero_sub, ← sm_neg] at e
      rw [sm_congr (g := fun r => - (colA rows totals many m j r * dual m (csL gains many m 0) (entL (s1L rows totals gains many m).tb) (bf (s1L rows totals gains many m).bs) many r)) fun r hr => by
        rw [hz r hr]
        unfold colA
        rw [if_pos hj, Int.mul_neg], ← e]
      exact enterL_none d1 j hj
    · have e := g1.tab.costDual (g1.cost 0 (by decide)) (many := many) (fun r hr => units0 hr) (j := many + m) (by omega)
      rw [Nat.add_zero, show csL gains many m 0 (many + m) = 0 by unfold csL; rw [if_pos rfl, if_neg (by omega)], Int.mul_zero, Int.zero_sub, ← sm_neg] at e
      rw [sm_congr (g := fun r => - (colA rows totals many m (many + m) r * dual m (csL gains many m 0) (entL (s1L rows totals gains many m).tb) (bf (s1L rows totals gains many m).bs) many r)) fun r hr => by
        rw [hz r hr]
        unfold colA
        rw [if_neg (by omega), if_neg (by omega), Int.mul_neg], ← e]
      have e2 := g1.cost 0 (by decide) (many + m) (by omega)
      rw [Nat.add_zero, show csL gains many m 0 (many + m) = 0 by unfold csL; rw [if_pos rfl, if_neg (by omega)], Int.mul_zero, Int.zero_sub] at e2
      have nn : 0 ≤ sm m fun i => csL gains many m 0 (bf (s1L rows totals gains many m).bs i) * entL (s1L rows totals gains many m).tb i (many + m) := sm_nonneg fun i hi => by
        refine Int.mul_nonneg ?_ (g1.feas i hi)
        unfold csL
        rw [if_pos rfl]
        split <;> decide
      omega
  · rw [if_neg c]
    have c' : entL (s1L rows totals gains many m).tb m (many + m) = 0 := Classical.not_not.mp c
    obtain ⟨n3, d3⟩ := W.done3 c'
    have e3 : s3L rows totals gains many m = itL (m + 1) many (many + m) n3 (poN many (s1L rows totals gains many m) m) := riseL_eq d3
    obtain ⟨⟨s, g3⟩, p3⟩ := W.all3 c' n3
    rw [← e3] at g3 d3 p3
    have inj : ∀ i k, i < m → k < m → bf (s3L rows totals gains many m).bs i = bf (s3L rows totals gains many m).bs k → i = k := fun i k hi hk e => g3.tab.inj hi hk e
    have hw : ∀ j, j < many → (wtN (s3L rows totals gains many m) many (many + m) m).getD j 0 = sm m fun i => if bf (s3L rows totals gains many m).bs i = j then entL (s3L rows totals gains many m).tb i (many + m) else 0 := fun j hj => wtN_get inj hj
    have sumw : ∀ f : Nat → Int, sm many (fun j => f j * (wtN (s3L rows totals gains many m) many (many + m) m).getD j 0) = sm m fun i => f (bf (s3L rows totals gains many m).bs i) * entL (s3L rows totals gains many m).tb i (many + m) := fun f => by
      rw [sm_congr (g := fun j => sm m fun i => if bf (s3L rows totals gains many m).bs i = j then f (bf (s3L rows totals gains many m).bs i) * entL (s3L rows totals gains many m).tb i (many + m) else 0) fun j hj => by
        rw [hw j hj, ← sm_mul]
        refine sm_congr fun i _ => ?_
        split
        · rename_i e; rw [e]
        · rw [Int.mul_zero], sm_comm]
      refine sm_congr fun i hi => ?_
      by_cases q : bf (s3L rows totals gains many m).bs i < many
      · rw [sm_one (k := bf (s3L rows totals gains many m).bs i) q (fun j _ hne => if_neg (Ne.symm hne)), if_pos rfl]
      · rw [sm_zero fun j hj => if_neg (by omega), p3.zero i hi (by omega), Int.mul_zero]
    have hd : ∀ r, r < m → ((List.range m).map fun k => entL (s3L rows totals gains many m).tb (m + 1) (many + k)).getD r 0 = - dual m (csL gains many m 1) (entL (s3L rows totals gains many m).tb) (bf (s3L rows totals gains many m).bs) many r := fun r hr => by
      rw [getD_rm hr]
      rw [g3.tab.costDual (g3.cost 1 (by decide)) (many := many) (fun r hr => units0 hr) (j := many + r) (by omega), show csL gains many m 1 (many + r) = 0 by unfold csL; rw [if_neg (by decide), if_neg (by omega)], sm_one (k := r) hr]
      · rw [(units0 (rows := rows) (totals := totals) (many := many) hr).2]
        unfold unit
        rw [if_pos rfl]; omega
      · intro i hi hne
        rw [(units0 (rows := rows) (totals := totals) (many := many) hr).2]
        unfold unit
        rw [if_neg hne, Int.zero_mul]
    refine ⟨g3.tab.pos, wtN_len, by simp, fun j hj => ?_, fun r hr => ?_, fun j hj => ?_, ?_⟩
    · rw [hw j hj]
      refine sm_nonneg fun i hi => ?_
      split
      · exact g3.feas i hi
      · exact Int.le_refl _
    · have e := sumw fun j => colA rows totals many m j r
      rw [sm_congr (g := fun j => colA rows totals many m j r * (wtN (s3L rows totals gains many m) many (many + m) m).getD j 0) fun j hj => by
        unfold colA
        rw [if_pos hj], e]
      have e2 := g3.tab.rel (many + m) r (by omega) hr
      rw [show colA rows totals many m (many + m) r = totals.getD r 0 by unfold colA; rw [if_neg (by omega), if_neg (by omega)]] at e2
      rw [e2]
      exact sm_congr fun i _ => Int.mul_comm _ _
    · have e := g3.tab.costDual (g3.cost 1 (by decide)) (many := many) (fun r hr => units0 hr) (j := j) (by omega)
      rw [show csL gains many m 1 j = - gains.getD j 0 by unfold csL; rw [if_neg (by decide), if_pos hj]] at e
      have nn : 0 ≤ entL (s3L rows totals gains many m).tb (m + 1) j := enterL_none d3 j hj
      rw [sm_congr (g := fun r => - (colA rows totals many m j r * dual m (csL gains many m 1) (entL (s3L rows totals gains many m).tb) (bf (s3L rows totals gains many m).bs) many r)) fun r hr => by
        rw [hd r hr]
        unfold colA
        rw [if_pos hj, Int.mul_neg], sm_neg]
      rw [e, Int.mul_neg] at nn
      omega
    · have e := g3.tab.costDual (g3.cost 1 (by decide)) (many := many) (fun r hr => units0 hr) (j := many + m) (by omega)
      rw [show csL gains many m 1 (many + m) = 0 by unfold csL; rw [if_neg (by decide), if_neg (by omega)], Int.mul_zero, Int.zero_sub, ← sm_neg] at e
      rw [sm_congr (g := fun r => - (colA rows totals many m (many + m) r * dual m (csL gains many m 1) (entL (s3L rows totals gains many m).tb) (bf (s3L rows totals gains many m).bs) many r)) fun r hr => by
        rw [hd r hr]
        unfold colA
        rw [if_neg (by omega), if_neg (by omega), Int.mul_neg], ← e]
      have e2 := g3.cost 1 (by decide) (many + m) (by omega)
      rw [show csL gains many m 1 (many + m) = 0 by unfold csL; rw [if_neg (by decide), if_neg (by omega)], Int.mul_zero, Int.zero_sub, ← sm_neg] at e2
      rw [e2, sumw fun j => gains.getD j 0]
      refine sm_congr fun i hi => ?_
      unfold csL
      rw [if_neg (by decide)]
      split
      · rw [Int.neg_mul, Int.neg_neg]
      · rw [p3.zero i hi (by omega)]; simp
/-- how great the numbers may be -/
theorem Good.bound {s : Int} {x : Stt} (g : GoodF rows totals gains many m s x) {M C K : Nat} (hM : ∀ j r, j < many + m + 1 → r < m → (colA rows totals many m j r).natAbs ≤ M) (hC : ∀ k j, k < 2 → j < many + m + 1 → (csL gains many m k j).natAbs ≤ C) (hC1 : 1 ≤ C) (hK : (m + 1) * (C * (fct m * pw M m)) ≤ K) :
    x.w.natAbs ≤ K ∧ ∀ i j, i < m + 2 → j < many + m + 1 → (entL x.tb i j).natAbs ≤ K := by
  have b1 := g.tab.boundW hM
  have h1 : fct m * pw M m ≤ C * (fct m * pw M m) := Nat.le_mul_of_pos_left _ hC1
  have h2 : C * (fct m * pw M m) ≤ (m + 1) * (C * (fct m * pw M m)) := Nat.le_mul_of_pos_left _ (by omega)
  refine ⟨by omega, fun i j hi hj => ?_⟩
  by_cases q : i < m
  · have := g.tab.bound hM q hj
    omega
  · have e := g.cost (i - m) (by omega) j hj
    rw [show m + (i - m) = i by omega] at e
    have c1 := hC (i - m) j (by omega) hj
    have s1 : (sm m fun i' => csL gains many m (i - m) (bf x.bs i') * entL x.tb i' j).natAbs ≤ m * (C * (fct m * pw M m)) := sm_bound fun i' hi' => by
      rw [Int.natAbs_mul]
      exact Nat.mul_le_mul (hC _ _ (by omega) (by have := g.low i' hi'; omega)) (g.tab.bound hM hi' hj)
    have s2 : (x.w * csL gains many m (i - m) j).natAbs ≤ C * (fct m * pw M m) := by
      rw [Int.natAbs_mul, Nat.mul_comm]
      exact Nat.mul_le_mul c1 b1
    rw [e]
    rw [Nat.succ_mul] at hK
    omega
end
end Lp

set_option Elab.async false
set_option linter.all false
set_option maxRecDepth 100000
set_option maxHeartbeats 4000000
namespace Sp
open PySem PySem.Spec PyProof.Rows L2
open PySem.W (Datum DatumOrd Tup)

open Lp (entL turnedL enterL leaveL lvStep leaveN itL goL Done riseL putL negL sgL poS poN Res bf)
def natI (bs : List Nat) : List Int := bs.map fun (n : Nat) => (n : Int)
def optD : Option Nat → PyData
  | none => .none
  | some p => .int p
def sttD (x : Lp.Stt) : PyData := .tuple [Datum.toD x.tb, Datum.toD (natI x.bs), .int x.w]
def resD : Res → PyData
  | .none w z => .tuple [.str "none", .int w, Datum.toD z]
  | .best w ws ds => .tuple [.str "best", .int w, Datum.toD ws, Datum.toD ds]
structure TbOk (tb : List (List Int)) (r N : Nat) : Prop where
  rows : tb.length = r
  cols : ∀ row ∈ tb, row.length = N
  small : ∀ i j, i < r → j < N → (entL tb i j).natAbs < 2 ^ 4000
  hr : r ≤ 1000
  hN : N ≤ 100000
theorem nth_ent {tb : List (List Int)} {i j : Nat} : nth (nth tb (i : Int)) (j : Int) = entL tb i j := by
  rw [nthE, nthE]; rfl
theorem nth_row {tb : List (List Int)} {i : Nat} : nth tb (i : Int) = tb.getD i [] := nthE _ _
theorem nth_bs {bs : List Nat} {i : Nat} (h : i < bs.length) : nth (natI bs) (i : Int) = ((bf bs i : Nat) : Int) := by
  rw [nthE]
  unfold natI
  rw [List.getD_eq_getElem?_getD, List.getElem?_map, List.getElem?_eq_getElem h]
  show ((bs[i] : Nat) : Int) = ((bs.getD i 0 : Nat) : Int)
  rw [List.getD_eq_getElem?_getD, List.getElem?_eq_getElem h]
  rfl
theorem TbOk.row {tb : List (List Int)} {r N i : Nat} (h : TbOk tb r N) (hi : i < r) : (tb.getD i []).length = N := h.cols _ (Lp.getD_mem (by rw [h.rows]; exact hi))
theorem TbOk.ix1 {tb : List (List Int)} {r N i : Nat} (h : TbOk tb r N) (hi : i < r) : (0 : Int) ≤ (i : Int) ∧ (i : Int) < (tb.length : Int) := by
  have := h.rows
  omega
theorem TbOk.ix2 {tb : List (List Int)} {r N i j : Nat} (h : TbOk tb r N) (hi : i < r) (hj : j < N) : (0 : Int) ≤ (j : Int) ∧ (j : Int) < ((nth tb (i : Int)).length : Int) := by
  rw [nth_row, h.row hi]
  omega
theorem TbOk.last {tb : List (List Int)} {r tot i : Nat} (h : TbOk tb r (tot + 1)) (hi : i < r) : atI (nth tb (i : Int)) (-1) = some (entL tb i tot) := by
  rw [nth_row]
  have hl := h.row hi
  refine atI_last1 hl ?_
  unfold entL
  rw [List.getD_eq_getElem?_getD (l := tb.getD i []), List.getElem?_eq_getElem (by omega)]
  rfl
theorem TbOk.size {tb : List (List Int)} {r N : Nat} (h : TbOk tb r N) : tb.length < sizeLine := by
  have h1 := h.rows
  have h2 := h.hr
  unfold sizeLine
  omega
theorem mulW {a b : Int} (ha : a.natAbs < 2 ^ 4000) (hb : b.natAbs < 2 ^ 4000) : CMulW a b := wide_mul ha hb (by decide) (by decide) (by decide)
def R_turned_table : List PyData → PyData → Prop := fun ds r => ∃ (tb : List (List Int)) (w : Int) (at_ p n N : Nat), ds = [Datum.toD tb, .int w, .int at_, .int p] ∧ (TbOk tb n N ∧ at_ < n ∧ p < N ∧ 0 < w ∧ w.natAbs < 2 ^ 4000) ∧ r = Datum.toD (turnedL tb w at_ p)
theorem R_turned_table_mk {tb : List (List Int)} {w : Int} {at_ p n N : Nat} (h : TbOk tb n N) (ha : at_ < n) (hp : p < N) (hw : 0 < w) (hw2 : w.natAbs < 2 ^ 4000) : R_turned_table [Datum.toD tb, Datum.toD w, Datum.toD ((at_ : Nat) : Int), Datum.toD ((p : Nat) : Int)] (Datum.toD (turnedL tb w at_ p)) := ⟨tb, w, at_, p, n, N, rfl, ⟨h, ha, hp, hw, hw2⟩, rfl⟩
def R_entering : List PyData → PyData → Prop := fun ds r => ∃ (row : List Int) (many : Nat), ds = [Datum.toD row, .int many] ∧ (many ≤ row.length ∧ many ≤ 100000) ∧ r = optD (enterL row many)
def R_leaving_row : List PyData → PyData → Prop := fun ds r => ∃ (tb : List (List Int)) (bs : List Nat) (p n tot : Nat), ds = [Datum.toD tb, Datum.toD (natI bs), .int p] ∧ (TbOk tb n (tot + 1) ∧ bs.length ≤ n ∧ p < tot + 1) ∧ r = optD (leaveL tb bs p tot)
/-- what a rise asks -/
structure RiseOk (x : Lp.Stt) (q many tot n m : Nat) : Prop where
  tb : ∀ k, TbOk (itL q many tot k x).tb n (tot + 1)
  bs : ∀ k, (itL q many tot k x).bs.length = m
  w : ∀ k, 0 < (itL q many tot k x).w ∧ (itL q many tot k x).w.natAbs < 2 ^ 4000
  out : ∀ k p, enterL ((itL q many tot k x).tb.getD q []) many = some p → leaveL (itL q many tot k x).tb (itL q many tot k x).bs p tot ≠ none
  done : ∃ k, Done q many (itL q many tot k x)
  hq : q < n
  hm : m ≤ n
  mt : many ≤ tot
def R_risen : List PyData → PyData → Prop := fun ds r => ∃ (x : Lp.Stt) (q many tot n m : Nat), ds = [Datum.toD x.tb, Datum.toD (natI x.bs), .int x.w, .int q, .int many] ∧ RiseOk x q many tot n m ∧ r = sttD (riseL q many tot x)
structure PoOk (x : Lp.Stt) (many tot n m : Nat) : Prop where
  tb : ∀ k, k ≤ m → TbOk (poN many x k).tb n (tot + 1)
  bs : ∀ k, k ≤ m → (poN many x k).bs.length = m
  w : ∀ k, k ≤ m → 0 < (poN many x k).w ∧ (poN many x k).w.natAbs < 2 ^ 4000
  hm : m ≤ n
  mt : many ≤ tot
def R_put_out : List PyData → PyData → Prop := fun ds r => ∃ (x : Lp.Stt) (many tot n m : Nat), ds = [Datum.toD x.tb, Datum.toD (natI x.bs), .int x.w, .int many] ∧ PoOk x many tot n m ∧ r = sttD (poN many x m)
theorem natI_len {bs : List Nat} : (natI bs).length = bs.length := List.length_map _
theorem natI_put {bs : List Nat} {k p : Nat} : (cutL (natI bs) none (some (k : Int)) ++ [((p : Nat) : Int)]) ++ cutL (natI bs) (some ((k : Int) + 1)) none = natI (putL bs k p) := by
  rw [cutL_take, show (k : Int) + 1 = ((k + 1 : Nat) : Int) by omega, cutL_drop]
  unfold natI putL
  rw [List.map_append, List.map_append, List.map_take, List.map_drop]
  rfl

section
variable {P : Program} {w : World} {K : PySem.W.Frag} {mg : Str → Option Value} {base : Heap}
theorem scturned_table : FnScope ["table", "whole", "at", "place", "by", "size", "found", "number", "row", "minus", "k", "own"] ["table", "whole", "at", "place"] (defScope (top 28)) := ⟨rfl, rfl, rfl, by decide +kernel, rfl, by decide +kernel, by decide +kernel⟩
theorem c_turned_table (B : Bn mg) (D : DefIn K mg "turned_table" (top 28)) : C8.Cal P w K mg base 1 "turned_table" (SpG K R_turned_table) [] := by
  refine cal_pure (R := R_turned_table) D scturned_table (fun _ _ _ _ _ _ us hl => match us, hl with | [_, _, _, _], _ => rfl) (by
    rintro ds r ⟨_, _, _, _, _, _, rfl, _⟩; rfl) fun f cdv A outer s H E hr => ⟨_, (pss_cons (ps_set (i := 4) scturned_table.nd rfl (by first | exact Or.inl rfl | exact Or.inr rfl) (pe_ix (ix_seq : IxR _ (rIx K)) (pv 0) (pv 2) (fun _ _ => rfl)))
    (pss_cons (ps_asg (pe_tup (pa_cons (pe_ix (ix_seq : IxR _ (rIx K)) (pv 4) (pv 3) (fun _ _ => rfl)) (pa_cons (pe_lst pa_nil) pa_nil))) (pg_tup (n := 2) rfl (pgs_cons (pg_name (i := 5) scturned_table.nd rfl (by first | exact Or.inl rfl | exact Or.inr rfl)) (pgs_cons (pg_name (i := 6) scturned_table.nd rfl (by first | exact Or.inl rfl | exact Or.inr rfl)) pgs_nil)) : PG _ _ (gTup K 2 _)))
    (pss_cons (ps_for PassesOwn.never rfl (pi_enumX (by rfl) B.enumerate (pa_cons (pv 0) pa_nil) : PI _ _ _ (iEnumX K _)) (pg_tup (n := 2) rfl (pgs_cons (pg_name (i := 7) scturned_table.nd rfl (by first | exact Or.inl rfl | exact Or.inr rfl)) (pgs_cons (pg_name (i := 8) scturned_table.nd rfl (by first | exact Or.inl rfl | exact Or.inr rfl)) pgs_nil)) : PG _ _ (gTup K 2 _)) (pss_one (ps_if (pt_cmpR (op_eqX hr.units : OpR _ _ (rEqX K)) (pv 7) (pv 2) (nomark _)) (pss_one (ps_expr (pe_bm PySem.F.plainAttrs_list PySem.F.slot_list_append PySem.F.type_list_append mt_append (pv 6) (pa_cons (pv 8) pa_nil)))) (pss_cons (ps_set (i := 9) scturned_table.nd rfl (by first | exact Or.inl rfl | exact Or.inr rfl) (pe_ix (ix_seq : IxR _ (rIx K)) (pv 8) (pv 3) (fun _ _ => rfl)))
    (pss_one (ps_expr (pe_bm PySem.F.plainAttrs_list PySem.F.slot_list_append PySem.F.type_list_append mt_append (pv 6) (pa_cons (pe_lc rfl scturned_table.nd (pi_enumX (by rfl) B.enumerate (pa_cons (pv 8) pa_nil) : PI _ _ _ (iEnumX K _)) (blkOk_by (own := [("k", 10), ("own", 11)]) (by kernel_rfl)) (fun _ _ _ _ _ => (pg_tup (n := 2) rfl (pgs_cons (pg_name (i := 10) scturned_table.nd rfl (by first | exact Or.inl rfl | exact Or.inr rfl)) (pgs_cons (pg_name (i := 11) scturned_table.nd rfl (by first | exact Or.inl rfl | exact Or.inr rfl)) pgs_nil)) : PG _ _ (gTup K 2 _))) (fun _ _ _ _ _ => pts_nil) (fun _ _ _ _ _ => (pe_op op_fdivW (pe_op op_sub (pe_op op_mulW (pv 11) (pv 5)) (pe_op op_mulW (pv 9) (pe_ix (ix_seq : IxR _ (rIx K)) (pv 4) (pv 10) (fun _ _ => rfl)))) (pv 1)))) pa_nil))))))))
    (pss_one (ps_ret (pv 6)))))), ?_⟩
  rintro F vs ds r ⟨tb, w, at_, p, n, N, rfl, ⟨tk, ha, hp, hw, hw2⟩, rfl⟩ hv
  obtain ⟨v_table, v_whole, v_at, v_place, rfl, r_table, r_whole, r_at, r_place⟩ := dq4 hv
  replace r_table : Rp K F v_table tb := r_table
  replace r_whole : Rp K F v_whole w := r_whole
  replace r_at : Rp K F v_at (at_ : Int) := r_at
  replace r_place : Rp K F v_place (p : Int) := r_place
  refine er_set (ev_nthL (ev_var (i := 0) rfl r_table) (ev_var (i := 2) rfl r_at) ?_) fun F1 v1 s1 r1 => ?_
  · exact tk.ix1 ha
  have r_table1 := r_table.mono s1
  have r_whole1 := r_whole.mono s1
  have r_at1 := r_at.mono s1
  have r_place1 := r_place.mono s1
  refine er_cellT (α := List Int) (x := entL tb at_ p) (Ev.cast (ev_nthL (ev_var (i := 4) rfl r1) (ev_var (i := 3) rfl r_place1) ?_) nth_ent) fresh_nil fun D F2 v2 s2 r2 => ?_
  · exact tk.ix2 ha hp
  clear r_table r_whole r_at r_place
  have r_table := r_table1.mono s2
  have r_whole := r_whole1.mono s2
  have r_at := r_at1.mono s2
  have r_place := r_place1.mono s2
  have rb := r1.mono s2
  clear r_table1 r_whole1 r_at1 r_place1 r1
  refine elr_seq (el_for (ei_enumL (ev_var (i := 0) rfl r_table)) (fun i F' σ' ys => ∃ o7 o8 o9, σ' = [some v_table, some v_whole, some v_at, some v_place, some v1, some v2, some (.ref D), o7, o8, o9, none, none] ∧ ys = (turnedL tb w at_ p).take i) (fun i F1 F2 σ' ys s h => h) ⟨none, none, none, rfl, rfl⟩ fun i F3 v3 y σ' ys s3 hy r3 hp3 => ?_) fun F3 σ' ys s3 hp3 => ?_
  · obtain ⟨o7, o8, o9, rfl, rfl⟩ := hp3
    obtain ⟨k, row⟩ := y
    obtain ⟨hi, rfl, rfl⟩ := enum_at (d := []) hy
    have hi' : i < n := by rw [← tk.rows]; exact hi
    have hrow := tk.row hi'
    have r_table1 := r_table.mono s3
    have r_whole1 := r_whole.mono s3
    have r_at1 := r_at.mono s3
    have r_place1 := r_place.mono s3
    have r1 := rb.mono s3
    have r2' := r2.mono s3
    have hlen : ((turnedL tb w at_ p).take i).length < sizeLine := by
      rw [List.length_take, Lp.turnedL_len]
      have := tk.size
      omega
    refine lcb_two r3 fun vn vr rn rr => el_if (et_test (ev_eq (ev_var (i := 7) rfl rn) (ev_var (i := 2) rfl r_at1))) (fun hb => el_append rfl (ev_var (i := 8) rfl rr) hlen fun F4 s4 => ⟨_, _, _, rfl, ?_⟩) (fun hb => el_set (x := entL tb i p) (Ev.cast (ev_nthL (ev_var (i := 8) rfl rr) (ev_var (i := 3) rfl r_place1) ?_) ?_) fun F4 v4 s4 rm => ?_)
    · have e : (i : Int) = (at_ : Int) := of_decide_eq_true hb
      have e : i = at_ := by omega
      subst e
      show _ = (turnedL tb w i p).take (i + 1)
      unfold turnedL
      rw [map_take_succ hi, if_pos rfl]
    · show _ ∧ (p : Int) < ((tb.getD i []).length : Int)
      rw [hrow]
      omega
    · show nth (tb.getD i []) (p : Int) = _
      rw [nthE]
      rfl
    · have hne : ¬ i = at_ := fun e => by
        rw [e] at hb
        have hb : decide ((at_ : Int) = (at_ : Int)) = false := hb
        simp at hb
      have r_whole2 := r_whole1.mono s4
      have rb4 := r1.mono s4
      have rs4 := r2'.mono s4
      have rr4 : Rp K F4 vr (tb.getD i []) := Rp.mono s4 rr
      refine el_append rfl (y := (List.range (tb.getD i []).length).map fun k => (entL tb i k * entL tb at_ p - entL tb i p * entL tb at_ k) / w) (Ev.cast (ev_lc1 (ei_enumL (ev_var (i := 8) rfl rr4)) (fun F1 v1 x1 s1 hx1 r1 => lcb_two r1 fun u1 w1 ru1 rw1 => ⟨rfl, (ev_i (ev_i0 (ev_i (ev_var (i := 11) rfl rw1) (ev_var (i := 5) rfl (rs4.mono s1)) ?_) (ev_i (ev_var (i := 9) rfl (rm.mono s1)) (ev_nthL (ev_var (i := 4) rfl (rb4.mono s1)) (ev_var (i := 10) rfl ru1) ?_) ?_)) (ev_var (i := 1) rfl (r_whole2.mono s1)) ?_)⟩)) ?_) hlen fun F5 s5 => ⟨_, _, _, rfl, ?_⟩
      · obtain ⟨j, hj⟩ := List.getElem?_of_mem hx1
        obtain ⟨hj1, e1, e2⟩ := enum_at (d := 0) (k := x1.1) (x := x1.2) hj
        rw [hrow] at hj1
        rw [e2]
        exact mulW (tk.small i j hi' hj1) (tk.small at_ p ha hp)
      · obtain ⟨j, hj⟩ := List.getElem?_of_mem hx1
        obtain ⟨hj1, e1, e2⟩ := enum_at (d := 0) (k := x1.1) (x := x1.2) hj
        rw [hrow] at hj1
        rw [e1]
        exact tk.ix2 ha hj1
      · obtain ⟨j, hj⟩ := List.getElem?_of_mem hx1
        obtain ⟨hj1, e1, e2⟩ := enum_at (d := 0) (k := x1.1) (x := x1.2) hj
        rw [hrow] at hj1
        rw [e1, nth_ent]
        exact mulW (tk.small i p hi' hp) (tk.small at_ j ha hj1)
      · exact wide_div hw hw2 (by decide) (by decide)
      · rw [enum_map (d := 0)]
        refine List.map_congr_left fun j hj => ?_
        show (_ - entL tb i p * nth (nth tb (at_ : Int)) (j : Int)) / w = _
        rw [nth_ent]
        rfl
      · show _ = (turnedL tb w at_ p).take (i + 1)
        unfold turnedL
        rw [map_take_succ hi, if_neg hne]
  · obtain ⟨o7, o8, o9, rfl, rfl⟩ := hp3
    refine elr_thaw fun F4 s4 r4 => er_retE (ev_var (i := 6) rfl r4) ?_
    rw [enum_len, List.take_of_length_le (by rw [Lp.turnedL_len]; exact Nat.le_refl _)]

theorem scentering : FnScope ["row", "many", "place"] ["row", "many"] (defScope (top 31)) := ⟨rfl, rfl, rfl, by decide +kernel, rfl, by decide +kernel, by decide +kernel⟩
theorem c_entering (B : Bn mg) (D : DefIn K mg "entering" (top 31)) : C8.Cal P w K mg base 1 "entering" (SpG K R_entering) [] := by
  refine cal_pure (R := R_entering) D scentering (fun _ _ _ _ _ _ us hl => match us, hl with | [_, _], _ => rfl) (by
    rintro ds r ⟨_, _, rfl, _⟩; rfl) fun f cdv A outer s H E hr => ⟨_, (pss_cons (ps_for PassesOwn.never rfl (pi_range1 (by rfl) B.range (pa_cons (pv 1) pa_nil)) (pg_name (i := 2) scentering.nd rfl (by first | exact Or.inl rfl | exact Or.inr rfl)) (pss_one (ps_if (pt_cmpR op_lt (pe_ix (ix_seq : IxR _ (rIx K)) (pv 0) (pv 2) (fun _ _ => rfl)) pe_int (nomark _)) (pss_one (ps_ret (pv 2))) pss_nil)))
    (pss_one (ps_ret pe_non))), ?_⟩
  rintro F vs ds r ⟨row, many, rfl, ⟨hm, hm2⟩, rfl⟩ hv
  obtain ⟨v_row, v_many, rfl, r_row, r_many⟩ := dq2 hv
  replace r_row : Rp K F v_row row := r_row
  replace r_many : Rp K F v_many (many : Int) := r_many
  refine er_forR (ei_rng1 (ev_var (i := 1) rfl r_many) ?_ ?_) (fun i F' σ' => ∃ o, σ' = [some v_row, some v_many, o] ∧ ∀ j, j < i → 0 ≤ row.getD j 0) (fun i F1 F2 σ' s h => h) ⟨none, rfl, fun j hj => absurd hj (by omega)⟩ (fun i F1 v x σ' s1 hx r hp => ?_) (fun F1 σ' s1 hp => ?_)
  · omega
  · omega
  · obtain ⟨o, rfl, hl⟩ := hp
    have hi : i < many := by
      have := (List.getElem?_eq_some_iff.mp hx).1
      rw [rangeL_len] at this
      omega
    rw [rangeL_get (by omega)] at hx
    have hx := Option.some.inj hx
    have hx : x = (i : Int) := by omega
    subst hx
    have r_row1 := r_row.mono s1
    have hix : (0 : Int) ≤ (i : Int) ∧ (i : Int) < (row.length : Int) := by omega
    refine ⟨_, eg_name, ?_⟩
    by_cases hn : row.getD i 0 < 0
    · refine .inr (er_ifE (b := true) (EvT.cast (et_test (ev_b0 (ev_nthL (ev_var (i := 0) rfl r_row1) (ev_var (i := 2) rfl r) ?_) ev_int)) ?_) (fun _ => er_retE (ev_var (i := 2) rfl r) ?_) (fun h => by cases h))
      · exact hix
      · rw [nthE]
        exact decide_eq_true hn
      · rw [Lp.enterL_is hi hn hl]; rfl
    · refine .inl (en_if (b := false) (EvT.cast (et_test (ev_b0 (ev_nthL (ev_var (i := 0) rfl r_row1) (ev_var (i := 2) rfl r) ?_) ev_int)) ?_) (fun h => by cases h) (fun _ => en_next fun F2 s2 => ⟨_, rfl, fun j hj => ?_⟩))
      · exact hix
      · rw [nthE]
        exact decide_eq_false hn
      · by_cases e : j = i
        · rw [e]; omega
        · exact hl j (by omega)
  · obtain ⟨o, rfl, hl⟩ := hp
    rw [rangeL_len] at hl
    refine er_ret (EvD.cast (Ev.d ev_none) ?_)
    rw [Lp.enterL_not fun j hj => hl j (by omega)]
    rfl

theorem scleaving_row : FnScope ["table", "basis", "place", "found", "at", "column", "size", "total", "far"] ["table", "basis", "place"] (defScope (top 29)) := ⟨rfl, rfl, rfl, by decide +kernel, rfl, by decide +kernel, by decide +kernel⟩
theorem c_leaving_row (B : Bn mg) (D : DefIn K mg "leaving_row" (top 29)) : C8.Cal P w K mg base 1 "leaving_row" (SpG K R_leaving_row) [] := by
  refine cal_pure (R := R_leaving_row) D scleaving_row (fun _ _ _ _ _ _ us hl => match us, hl with | [_, _, _], _ => rfl) (by
    rintro ds r ⟨_, _, _, _, _, rfl, _⟩; rfl) fun f cdv A outer s H E hr => ⟨_, (pss_cons (ps_set (i := 3) scleaving_row.nd rfl (by first | exact Or.inl rfl | exact Or.inr rfl) pe_non)
    (pss_cons (ps_for PassesOwn.never rfl (pi_enumX (by rfl) B.enumerate (pa_cons (pv 1) pa_nil) : PI _ _ _ (iEnumX K _)) (pg_tup (n := 2) rfl (pgs_cons (pg_name (i := 4) scleaving_row.nd rfl (by first | exact Or.inl rfl | exact Or.inr rfl)) (pgs_cons (pg_name (i := 5) scleaving_row.nd rfl (by first | exact Or.inl rfl | exact Or.inr rfl)) pgs_nil)) : PG _ _ (gTup K 2 _)) (pss_cons (ps_par (i := 6) (j := 7) rfl scleaving_row.nd rfl rfl (by decide) rfl rfl (pa_cons (pe_ix (ix_seq : IxR _ (rIx K)) (pe_ix (ix_seq : IxR _ (rIx K)) (pv 0) (pv 4) (fun _ _ => rfl)) (pv 2) (fun _ _ => rfl)) (pa_cons (pe_ix (ix_seq : IxR _ (rIx K)) (pe_ix (ix_seq : IxR _ (rIx K)) (pv 0) (pv 4) (fun _ _ => rfl)) (pe_un un_neg pe_int) (fun _ _ => rfl)) pa_nil)) (by rfl))
    (pss_one (ps_if (pt_cmpR op_gt (pv 6) pe_int (nomark _)) (pss_one (ps_if (pt_cmp (pc_isN (pv 3))) (pss_one (ps_set (i := 3) scleaving_row.nd rfl (by first | exact Or.inl rfl | exact Or.inr rfl) (pv 4))) (pss_cons (ps_set (i := 8) scleaving_row.nd rfl (by first | exact Or.inl rfl | exact Or.inr rfl) (pe_op op_sub (pe_op op_mulW (pv 7) (pe_ix (ix_seq : IxR _ (rIx K)) (pe_ix (ix_seq : IxR _ (rIx K)) (pv 0) (pv 3) (fun _ _ => rfl)) (pv 2) (fun _ _ => rfl))) (pe_op op_mulW (pe_ix (ix_seq : IxR _ (rIx K)) (pe_ix (ix_seq : IxR _ (rIx K)) (pv 0) (pv 3) (fun _ _ => rfl)) (pe_un un_neg pe_int) (fun _ _ => rfl)) (pv 6))))
    (pss_one (ps_if (PW.pt (pw_or (pt_cmpR op_lt (pv 8) pe_int (nomark _)) (pw_or1 (PW.pt (pw_and (pt_cmpR (op_eqX hr.units : OpR _ _ (rEqX K)) (pv 8) pe_int (nomark _)) (pw_and1 (pt_cmpR op_lt (pv 5) (pe_ix (ix_seq : IxR _ (rIx K)) (pv 1) (pv 3) (fun _ _ => rfl)) (nomark _)))))))) (pss_one (ps_set (i := 3) scleaving_row.nd rfl (by first | exact Or.inl rfl | exact Or.inr rfl) (pv 4))) pss_nil))))) pss_nil))))
    (pss_one (ps_ret (pv 3))))), ?_⟩
  rintro F vs ds r ⟨tb, bs, p, n, tot, rfl, ⟨tk, hb, hp⟩, rfl⟩ hv
  obtain ⟨v_table, v_basis, v_place, rfl, r_table, r_basis, r_place⟩ := dq3 hv
  replace r_table : Rp K F v_table tb := r_table
  replace r_basis : Rp K F v_basis (natI bs) := r_basis
  replace r_place : Rp K F v_place (p : Int) := r_place
  refine er_setD (x := .none) (Ev.d ev_none) fun F1 v1 s1 r1 => ?_
  have r_table1 := r_table.mono s1
  have r_basis1 := r_basis.mono s1
  have r_place1 := r_place.mono s1
  refine er_for (ei_enumL (ev_var (i := 1) rfl r_basis1)) (fun i F' σ' => ∃ vf o4 o5 o6 o7 o8, σ' = [some v_table, some v_basis, some v_place, some vf, o4, o5, o6, o7, o8] ∧ Dq K F' vf (optD (leaveN tb bs p tot i))) (fun i F1 F2 σ' s h => ?_) ⟨v1, none, none, none, none, none, rfl, r1⟩ (fun i F2 v y σ' s2 hy r hp2 => ?_) (fun F2 σ' s2 hp2 => ?_)
  · obtain ⟨vf, o4, o5, o6, o7, o8, rfl, h⟩ := h
    exact ⟨vf, o4, o5, o6, o7, o8, rfl, dp_mono s _ _ h⟩
  · obtain ⟨vf, o4, o5, o6, o7, o8, rfl, rF⟩ := hp2
    obtain ⟨k, z⟩ := y
    obtain ⟨hi, rfl, rfl⟩ := enum_at (d := default) hy
    rw [natI_len] at hi
    rw [← nthE, nth_bs hi] at r
    have hin : i < n := by omega
    replace r_table1 := r_table1.mono s2
    replace r_basis1 := r_basis1.mono s2
    replace r_place1 := r_place1.mono s2
    refine lcb_two r fun va vc ra rc => enk_parP (x := entL tb i p) (y := entL tb i tot) (Ev.cast (ev_nthL (ev_nthL (ev_var (i := 0) rfl r_table1) (ev_var (i := 4) rfl ra) ?_) (ev_var (i := 2) rfl r_place1) ?_) nth_ent) (ev_ixL (ev_nthL (ev_var (i := 0) rfl r_table1) (ev_var (i := 4) rfl ra) ?_) (ev_u ev_int) (tk.last hin)) fun F3 v3 w3 s3 rs rt => ?_
    · exact tk.ix1 hin
    · exact tk.ix2 hin hp
    · exact tk.ix1 hin
    have r_table2 := r_table1.mono s3
    have r_basis2 := r_basis1.mono s3
    have r_place2 := r_place1.mono s3
    have ra2 := Rp.mono s3 ra
    have rc2 := Rp.mono s3 rc
    replace rF := dp_mono s3 _ _ rF
    have hst : leaveN tb bs p tot (i + 1) = lvStep tb bs p tot (leaveN tb bs p tot i) i := rfl
    refine en_if (et_test (ev_b0 (ev_var (i := 6) rfl rs) ev_int)) (fun h => ?_) (fun h => en_next fun F4 s4 => ⟨_, _, _, _, _, _, rfl, ?_⟩)
    · have h : 0 < entL tb i p := of_decide_eq_true h
      have hf := Lp.leaveN_spec (tb := tb) (bs := bs) (p := p) (tot := tot) (n := i)
      cases e : leaveN tb bs p tot i with
      | none =>
        rw [e] at rF hf
        refine en_if (et_val (ev_isN (evd_var (i := 3) rfl rF))) (fun _ => en_set (ev_var (i := 4) rfl ra2) fun F4 v4 s4 r4 => ⟨_, _, _, _, _, _, rfl, ?_⟩) (fun h => by cases h)
        rw [hst, e]
        unfold lvStep
        rw [if_pos h]
        exact r4
      | some fd =>
        rw [e] at rF hf
        obtain ⟨hf1, hf2, _⟩ := hf
        have hfn : fd < n := by omega
        have rf : Rp K F3 vf ((fd : Nat) : Int) := rF
        refine en_if (et_val (ev_isN (evd_var (i := 3) rfl rF))) (fun h => by cases h) (fun _ => enk_setP (x := entL tb i tot * entL tb fd p - entL tb fd tot * entL tb i p) (ev_i0 (Ev.cast (ev_i (ev_var (i := 7) rfl rt) (ev_nthL (ev_nthL (ev_var (i := 0) rfl r_table2) (ev_var (i := 3) rfl rf) ?_) (ev_var (i := 2) rfl r_place2) ?_) ?_) (congrArg _ nth_ent)) (ev_i (ev_ixL (ev_nthL (ev_var (i := 0) rfl r_table2) (ev_var (i := 3) rfl rf) ?_) (ev_u ev_int) (tk.last hfn)) (ev_var (i := 6) rfl rs) ?_)) fun F4 v4 s4 r4 => en_if (et_or (et_test (ev_b0 (ev_var (i := 8) rfl r4) ev_int)) fun h2 => (et_and (et_test (ev_eq (ev_var (i := 8) rfl r4) ev_int)) fun h1 => (et_test (ev_b0 (ev_var (i := 5) rfl (rc2.mono s4)) (ev_nthL (ev_var (i := 1) rfl (r_basis2.mono s4)) (ev_var (i := 3) rfl (rf.mono s4)) ?_))))) (fun h2 => en_set (ev_var (i := 4) rfl (ra2.mono s4)) fun F5 v5 s5 r5 => ⟨_, _, _, _, _, _, rfl, ?_⟩) (fun h2 => en_next fun F5 s5 => ⟨_, _, _, _, _, _, rfl, ?_⟩))
        · exact tk.ix1 hfn
        · exact tk.ix2 hfn hp
        · rw [nth_ent]
          exact mulW (tk.small i tot hin (by omega)) (tk.small fd p hfn hp)
        · exact tk.ix1 hfn
        · exact mulW (tk.small fd tot hfn (by omega)) (tk.small i p hin hp)
        · rw [natI_len]
          omega
        all_goals
          rw [nth_bs (show fd < bs.length by omega)] at h2
          rw [hst, e]
          unfold lvStep
          rw [if_pos h]
        · have hc : entL tb i tot * entL tb fd p - entL tb fd tot * entL tb i p < 0 ∨ (entL tb i tot * entL tb fd p - entL tb fd tot * entL tb i p = 0 ∧ bf bs i < bf bs fd) := by
            rcases (Bool.or_eq_true _ _).mp h2 with h2 | h2
            · exact .inl (of_decide_eq_true h2)
            · obtain ⟨h3, h4⟩ := (Bool.and_eq_true _ _).mp h2
              exact .inr ⟨of_decide_eq_true h3, by
                have : ((bf bs i : Nat) : Int) < ((bf bs fd : Nat) : Int) := of_decide_eq_true h4
                omega⟩
          show Dq K F5 v5 (optD (if _ then some i else some fd))
          rw [if_pos hc]
          exact r5
        · have hc : ¬ (entL tb i tot * entL tb fd p - entL tb fd tot * entL tb i p < 0 ∨ (entL tb i tot * entL tb fd p - entL tb fd tot * entL tb i p = 0 ∧ bf bs i < bf bs fd)) := by
            obtain ⟨h3, h4⟩ := Bool.or_eq_false_iff.mp h2
            rintro (h5 | ⟨h5, h6⟩)
            · exact of_decide_eq_false h3 h5
            · rcases Bool.and_eq_false_iff.mp h4 with h4 | h4
              · exact of_decide_eq_false h4 h5
              · have : ¬ ((bf bs i : Nat) : Int) < ((bf bs fd : Nat) : Int) := of_decide_eq_false h4
                omega
          show Dq K F5 vf (optD (if _ then some i else some fd))
          rw [if_neg hc]
          exact dp_mono (s4.trans s5) _ _ rF
    · have h : ¬ 0 < entL tb i p := of_decide_eq_false h
      rw [hst]
      unfold lvStep
      rw [if_neg h]
      exact dp_mono s4 _ _ rF
  · obtain ⟨vf, o4, o5, o6, o7, o8, rfl, h⟩ := hp2
    rw [enum_len, natI_len] at h
    exact er_ret (evd_var (i := 3) rfl h)

theorem R_entering_mk {row : List Int} {many : Nat} (h : many ≤ row.length) (h2 : many ≤ 100000) : R_entering [Datum.toD row, Datum.toD ((many : Nat) : Int)] (optD (enterL row many)) := ⟨row, many, rfl, ⟨h, h2⟩, rfl⟩
theorem evd_stt {K : PySem.W.Frag} {F : Hp} {σ : L2.St} {ta tb tc : TE} {x : Lp.Stt} (ha : Ev K F ta σ x.tb) (hb : Ev K F tb σ (natI x.bs)) (hc : Ev K F tc σ x.w) : EvD K F (tTup (tCons ta (tCons tb (tCons tc tNil)))) σ (sttD x) := evd_dT (ea_cons ha (ea_cons hb (ea_cons hc ea_nil))) (by show 3 ≤ sizeLine; decide)
theorem scrisen : FnScope ["table", "basis", "whole", "cost", "many", "place", "at", "size"] ["table", "basis", "whole", "cost", "many"] (defScope (top 30)) := ⟨rfl, rfl, rfl, by decide +kernel, rfl, by decide +kernel, by decide +kernel⟩
theorem c_risen (B : Bn mg) (D : DefIn K mg "risen" (top 30)) (c_entering : C8.Cal P w K mg base 1 "entering" (SpG K R_entering) []) (c_leaving_row : C8.Cal P w K mg base 1 "leaving_row" (SpG K R_leaving_row) []) (c_turned_table : C8.Cal P w K mg base 1 "turned_table" (SpG K R_turned_table) []) : C8.Cal P w K mg base 2 "risen" (SpG K R_risen) [] := by
  refine cal_pure (R := R_risen) D scrisen (fun _ _ _ _ _ _ us hl => match us, hl with | [_, _, _, _, _], _ => rfl) (by
    rintro ds r ⟨_, _, _, _, _, _, rfl, _⟩; rfl) fun f cdv A outer s H E hr => ⟨_, (pss_cons (ps_set (i := 5) scrisen.nd rfl (by first | exact Or.inl rfl | exact Or.inr rfl) (C8.pe_c c_entering hr (by decide) (by rfl) (pa_cons (pe_ix (ix_seq : IxR _ (rIx K)) (pv 0) (pv 3) (fun _ _ => rfl)) (pa_cons (pv 4) pa_nil))))
    (pss_cons (ps_while PassesOwn.never (pt_cmp (pc_notN (pv 5))) (pss_cons (ps_set (i := 6) scrisen.nd rfl (by first | exact Or.inl rfl | exact Or.inr rfl) (C8.pe_c c_leaving_row hr (by decide) (by rfl) (pa_cons (pv 0) (pa_cons (pv 1) (pa_cons (pv 5) pa_nil)))))
    (pss_cons (ps_set (i := 7) scrisen.nd rfl (by first | exact Or.inl rfl | exact Or.inr rfl) (pe_ix (ix_seq : IxR _ (rIx K)) (pe_ix (ix_seq : IxR _ (rIx K)) (pv 0) (pv 6) (fun _ _ => rfl)) (pv 5) (fun _ _ => rfl)))
    (pss_cons (ps_set (i := 0) scrisen.nd rfl (by first | exact Or.inl rfl | exact Or.inr rfl) (C8.pe_c c_turned_table hr (by decide) (by rfl) (pa_cons (pv 0) (pa_cons (pv 2) (pa_cons (pv 6) (pa_cons (pv 5) pa_nil))))))
    (pss_cons (ps_par (i := 1) (j := 2) rfl scrisen.nd rfl rfl (by decide) rfl rfl (pa_cons (pe_op op_catL (pe_op op_catL (pe_slice (sl_list : SlR _ (rSlL K)) (pv 1) po_none (po_some (pv 6))) (pe_lst (pa_cons (pv 5) pa_nil))) (pe_slice (sl_list : SlR _ (rSlL K)) (pv 1) (po_some (pe_op op_add (pv 6) pe_int)) po_none)) (pa_cons (pv 7) pa_nil)) (by rfl))
    (pss_one (ps_set (i := 5) scrisen.nd rfl (by first | exact Or.inl rfl | exact Or.inr rfl) (C8.pe_c c_entering hr (by decide) (by rfl) (pa_cons (pe_ix (ix_seq : IxR _ (rIx K)) (pv 0) (pv 3) (fun _ _ => rfl)) (pa_cons (pv 4) pa_nil))))))))))
    (pss_one (ps_ret (pe_tup (pa_cons (pv 0) (pa_cons (pv 1) (pa_cons (pv 2) pa_nil)))))))), ?_⟩
  rintro F vs ds r ⟨x, q, many, tot, n, m, rfl, ok, rfl⟩ hv
  obtain ⟨v_table, v_basis, v_whole, v_cost, v_many, rfl, r_table, r_basis, r_whole, r_cost, r_many⟩ := dq5 hv
  replace r_table : Rp K F v_table x.tb := r_table
  replace r_basis : Rp K F v_basis (natI x.bs) := r_basis
  replace r_whole : Rp K F v_whole x.w := r_whole
  replace r_cost : Rp K F v_cost (q : Int) := r_cost
  replace r_many : Rp K F v_many (many : Int) := r_many
  obtain ⟨n0, hn0⟩ := ok.done
  have hmt := ok.mt
  have hN := (ok.tb 0).hN
  have hq := ok.hq
  have hrow : ∀ k, ((itL q many tot k x).tb.getD q []).length = tot + 1 := fun k => (ok.tb k).row ok.hq
  let Y : Nat → Lp.Stt := fun k => itL q many tot k x
  have t0 : TbOk x.tb n (tot + 1) := ok.tb 0
  refine er_setD (evd_call (ea_cons (ev_nthL (ev_var (i := 0) rfl r_table) (ev_var (i := 3) rfl r_cost) ?_) (ea_cons (ev_var (i := 4) rfl r_many) ea_nil)) (R_entering_mk ?_ ?_)) fun F1 v1 s1 r1 => ?_
  · exact t0.ix1 hq
  · rw [nth_row, t0.row hq]
    omega
  · omega
  rw [nth_row] at r1
  refine er_while (fun μ F' σ' => ∃ k v0 v1 v2 v5 o6 o7, σ' = [some v0, some v1, some v2, some v_cost, some v_many, some v5, o6, o7] ∧ Rp K F' v0 (Y k).tb ∧ Rp K F' v1 (natI (Y k).bs) ∧ Rp K F' v2 (Y k).w ∧ Dq K F' v5 (optD (enterL ((Y k).tb.getD q []) many)) ∧ k ≤ n0 ∧ μ = n0 - k) (fun μ F1 F2 σ' s h => ?_) ⟨n0, 0, v_table, v_basis, v_whole, v1, none, none, rfl, r_table.mono s1, r_basis.mono s1, r_whole.mono s1, r1, Nat.zero_le _, rfl⟩ (fun μ F2 σ' s2 h => ?_)
  · obtain ⟨k, v0, v1, v2, v5, o6, o7, rfl, h0, h1, h2, h5, hk⟩ := h
    exact ⟨k, v0, v1, v2, v5, o6, o7, rfl, h0.mono s, h1.mono s, h2.mono s, dp_mono s _ _ h5, hk⟩
  · obtain ⟨k, v0, v1, v2, v5, o6, o7, rfl, r_table1, r_basis1, r_whole1, r5, hk, rfl⟩ := h
    have r_cost1 := r_cost.mono (s1.trans s2)
    have r_many1 := r_many.mono (s1.trans s2)
    cases e : enterL ((Y k).tb.getD q []) many with
    | none =>
      rw [e] at r5
      refine ⟨false, et_test (ev_notN (evd_var (i := 5) rfl r5)), fun h => (by cases h), fun _ => er_ret (EvD.cast (evd_stt (x := Y k) (ev_var (i := 0) rfl r_table1) (ev_var (i := 1) rfl r_basis1) (ev_var (i := 2) rfl r_whole1)) ?_)⟩
      rw [Lp.riseL_eq (show Done q many (itL q many tot k x) from e)]
    | some p =>
      rw [e] at r5
      have rp : Rp K F2 v5 ((p : Nat) : Int) := r5
      obtain ⟨p1, p2, p3⟩ := Lp.enterL_some e
      have hp2 : p < tot + 1 := by omega
      refine ⟨true, et_test (ev_notN (evd_var (i := 5) rfl r5)), fun _ => ?_, fun h => (by cases h)⟩
      have hkn : k < n0 := by
        refine Classical.byContradiction fun z => ?_
        have : k = n0 := by omega
        subst this
        have e' : enterL ((Y k).tb.getD q []) many = none := hn0
        rw [e'] at e
        cases e
      cases el : leaveL (Y k).tb (Y k).bs p tot with
      | none => exact absurd el (ok.out k p e)
      | some at_ =>
        have hl := Lp.leaveL_some el
        have hlb : at_ < (Y k).bs.length := hl.1
        have hat : at_ < n := by
          have := ok.bs k
          have := ok.hm
          have : (Y k).bs.length = m := ok.bs k
          omega
        have ey : Y (k + 1) = ⟨turnedL (Y k).tb (Y k).w at_ p, putL (Y k).bs at_ p, entL (Y k).tb at_ p⟩ := by
          show goL q many tot (Y k) = _
          unfold goL
          rw [e]
          show (match leaveL (Y k).tb (Y k).bs p tot with
            | none => Y k
            | some at_ => ⟨turnedL (Y k).tb (Y k).w at_ p, putL (Y k).bs at_ p, entL (Y k).tb at_ p⟩) = _
          rw [el]
        refine enk_setPD (evd_call (ea_cons (ev_var (i := 0) rfl r_table1) (ea_cons (ev_var (i := 1) rfl r_basis1) (ea_cons (ev_var (i := 5) rfl rp) ea_nil))) (⟨(Y k).tb, (Y k).bs, p, n, tot, rfl, ⟨ok.tb k, by rw [ok.bs k]; exact ok.hm, hp2⟩, rfl⟩)) fun F3 v3 s3 r3 => ?_
        rw [el] at r3
        have ra : Rp K F3 v3 ((at_ : Nat) : Int) := r3
        replace r_table1 := r_table1.mono s3
        replace r_basis1 := r_basis1.mono s3
        replace r_whole1 := r_whole1.mono s3
        replace r_cost1 := r_cost1.mono s3
        replace r_many1 := r_many1.mono s3
        replace rp := rp.mono s3
        refine enk_setP (x := entL (Y k).tb at_ p) (Ev.cast (ev_nthL (ev_nthL (ev_var (i := 0) rfl r_table1) (ev_var (i := 6) rfl ra) ?_) (ev_var (i := 5) rfl rp) ?_) nth_ent) fun F4 v4 s4 rs => ?_
        · exact (ok.tb k).ix1 hat
        · exact (ok.tb k).ix2 hat hp2
        replace r_table1 := r_table1.mono s4
        replace r_basis1 := r_basis1.mono s4
        replace r_whole1 := r_whole1.mono s4
        replace r_cost1 := r_cost1.mono s4
        replace r_many1 := r_many1.mono s4
        replace rp := rp.mono s4
        replace ra := ra.mono s4
        refine enk_setP (ev_call (ea_cons (ev_var (i := 0) rfl r_table1) (ea_cons (ev_var (i := 2) rfl r_whole1) (ea_cons (ev_var (i := 6) rfl ra) (ea_cons (ev_var (i := 5) rfl rp) ea_nil)))) (R_turned_table_mk (ok.tb k) hat hp2 (ok.w k).1 (ok.w k).2)) fun F5 v6 s5 r_tn => ?_
        replace r_basis1 := r_basis1.mono s5
        replace r_cost1 := r_cost1.mono s5
        replace r_many1 := r_many1.mono s5
        replace rp := rp.mono s5
        replace ra := ra.mono s5
        replace rs := rs.mono s5
        refine enk_parP (x := natI (putL (Y k).bs at_ p)) (Ev.cast (ev_catL (ev_catL (ev_slL (ev_var (i := 1) rfl r_basis1) eo_none (eo_some (ev_var (i := 6) rfl ra))) (ev_dL (es_cons (ev_var (i := 5) rfl rp) es_nil)) ?_) (ev_slL (ev_var (i := 1) rfl r_basis1) (eo_some (ev_i0 (ev_var (i := 6) rfl ra) ev_int)) eo_none) ?_) natI_put) (ev_var (i := 7) rfl rs) fun F6 vb vw s6 rb rw_ => ?_
        · show (cutL (natI (Y k).bs) none (some (at_ : Int))).length + 1 ≤ sizeLine
          rw [cutL_take, List.length_take, natI_len]
          have h1 : (Y k).bs.length = m := ok.bs k
          have h2 := ok.hm
          have h3 := (ok.tb k).hr
          unfold sizeLine
          omega
        · rw [cutL_take, show (at_ : Int) + 1 = ((at_ + 1 : Nat) : Int) by omega, cutL_drop, List.length_append, List.length_take, List.length_drop, natI_len]
          have h1 : (Y k).bs.length = m := ok.bs k
          have h2 := ok.hm
          have h3 := (ok.tb k).hr
          show _ + 1 + _ ≤ sizeLine
          unfold sizeLine
          omega
        replace r_tn := r_tn.mono s6
        replace r_cost1 := r_cost1.mono s6
        replace r_many1 := r_many1.mono s6
        have tk1 : TbOk (turnedL (Y k).tb (Y k).w at_ p) n (tot + 1) := by
          have := ok.tb (k + 1)
          rw [show itL q many tot (k + 1) x = _ from ey] at this
          exact this
        refine en_setD (evd_call (ea_cons (ev_nthL (ev_var (i := 0) rfl r_tn) (ev_var (i := 3) rfl r_cost1) ?_) (ea_cons (ev_var (i := 4) rfl r_many1) ea_nil)) (R_entering_mk ?_ ?_)) fun F7 v7 s7 r7 => ⟨n0 - (k + 1), by omega, k + 1, v6, vb, vw, v7, _, _, rfl, ?_, ?_, ?_, ?_, by omega, rfl⟩
        · exact tk1.ix1 hq
        · rw [nth_row, tk1.row hq]
          omega
        · omega
        · rw [ey]
          exact r_tn.mono s7
        · rw [ey]
          exact rb.mono s7
        · rw [ey]
          exact rw_.mono s7
        · rw [ey]
          rw [nth_row] at r7
          exact r7

theorem places_eq {many : Nat} {Q : Int → Bool} : (((rangeL 0 (many : Int)).filter Q).map fun x => x) = ((List.range many).filter fun (k : Nat) => Q (k : Int)).map fun (k : Nat) => (k : Int) := by
  rw [List.map_id', ← List.map_id (rangeL 0 (many : Int)), range_map, List.filter_map]
  rfl
theorem places_none {many : Nat} {Q : Int → Bool} (h : ((List.range many).find? fun (k : Nat) => Q (k : Int)) = none) : (((rangeL 0 (many : Int)).filter Q).map fun x => x) = [] := by
  rw [places_eq, List.map_eq_nil_iff, List.filter_eq_nil_iff]
  intro a ha
  exact List.find?_eq_none.mp h a ha
theorem places_some {many p : Nat} {Q : Int → Bool} (h : ((List.range many).find? fun (k : Nat) => Q (k : Int)) = some p) : ∃ r, (((rangeL 0 (many : Int)).filter Q).map fun x => x) = (p : Int) :: r := by
  rw [← List.head?_filter] at h
  rw [places_eq]
  cases e : (List.range many).filter fun (k : Nat) => Q (k : Int) with
  | nil => rw [e] at h; cases h
  | cons a r =>
    rw [e] at h
    cases h
    exact ⟨_, rfl⟩
theorem scput_out : FnScope ["table", "basis", "whole", "many", "at", "places", "place", "size", "own"] ["table", "basis", "whole", "many"] (defScope (top 32)) := ⟨rfl, rfl, rfl, by decide +kernel, rfl, by decide +kernel, by decide +kernel⟩
theorem c_put_out (B : Bn mg) (D : DefIn K mg "put_out" (top 32)) (c_turned_table : C8.Cal P w K mg base 1 "turned_table" (SpG K R_turned_table) []) : C8.Cal P w K mg base 2 "put_out" (SpG K R_put_out) [] := by
  refine cal_pure (R := R_put_out) D scput_out (fun _ _ _ _ _ _ us hl => match us, hl with | [_, _, _, _], _ => rfl) (by
    rintro ds r ⟨_, _, _, _, _, rfl, _⟩; rfl) fun f cdv A outer s H E hr => ⟨_, (pss_cons (ps_for PassesOwn.never rfl (pi_range1 (by rfl) B.range (pa_cons (pe_callB (cr_lenX : CallR _ _ (rLenX K)) (by rfl) B.len PySem.boot_len (pa_cons (pv 1) pa_nil)) pa_nil)) (pg_name (i := 4) scput_out.nd rfl (by first | exact Or.inl rfl | exact Or.inr rfl)) (pss_cons (ps_setLc (i := 5) rfl scput_out.nd rfl rfl (by rfl) (pi_range1 (by rfl) B.range (pa_cons (pv 3) pa_nil)) (blkOk_by (own := [("place", 6)]) (by kernel_rfl)) (fun _ _ _ _ _ => (pg_name (i := 6) scput_out.nd rfl (by first | exact Or.inl rfl | exact Or.inr rfl))) (fun _ _ _ _ _ => (pts_one (pt_cmpR (op_neX hr.units : OpR _ _ (rNeX K)) (pe_ix (ix_seq : IxR _ (rIx K)) (pe_ix (ix_seq : IxR _ (rIx K)) (pv 0) (pv 4) (fun _ _ => rfl)) (pv 6) (fun _ _ => rfl)) pe_int (nomark _)))) (fun _ _ _ _ _ => (pv 6)))
    (pss_one (ps_if (PW.pt (pw_and (pt_cmpR op_ge (pe_ix (ix_seq : IxR _ (rIx K)) (pv 1) (pv 4) (fun _ _ => rfl)) (pv 3) (nomark _)) (pw_and1 (pt_cmpR (op_neX hr.units : OpR _ _ (rNeX K)) (pv 5) (pe_lst pa_nil) (nomark _))))) (pss_cons (ps_set (i := 6) scput_out.nd rfl (by first | exact Or.inl rfl | exact Or.inr rfl) (pe_ix (ix_seq : IxR _ (rIx K)) (pv 5) pe_int (fun _ _ => rfl)))
    (pss_cons (ps_if (pt_cmpR op_lt (pe_ix (ix_seq : IxR _ (rIx K)) (pe_ix (ix_seq : IxR _ (rIx K)) (pv 0) (pv 4) (fun _ _ => rfl)) (pv 6) (fun _ _ => rfl)) pe_int (nomark _)) (pss_one (ps_set (i := 0) scput_out.nd rfl (by first | exact Or.inl rfl | exact Or.inr rfl) (pe_op op_catL (pe_op op_catL (pe_slice (sl_list : SlR _ (rSlL K)) (pv 0) po_none (po_some (pv 4))) (pe_lst (pa_cons (pe_lc rfl scput_out.nd (pi_seqX (pe_ix (ix_seq : IxR _ (rIx K)) (pv 0) (pv 4) (fun _ _ => rfl)) : PI _ _ _ (iSeqX K _)) (blkOk_by (own := [("own", 8)]) (by kernel_rfl)) (fun _ _ _ _ _ => (pg_name (i := 8) scput_out.nd rfl (by first | exact Or.inl rfl | exact Or.inr rfl))) (fun _ _ _ _ _ => pts_nil) (fun _ _ _ _ _ => (pe_un un_neg (pv 8)))) pa_nil))) (pe_slice (sl_list : SlR _ (rSlL K)) (pv 0) (po_some (pe_op op_add (pv 4) pe_int)) po_none)))) pss_nil)
    (pss_cons (ps_set (i := 7) scput_out.nd rfl (by first | exact Or.inl rfl | exact Or.inr rfl) (pe_ix (ix_seq : IxR _ (rIx K)) (pe_ix (ix_seq : IxR _ (rIx K)) (pv 0) (pv 4) (fun _ _ => rfl)) (pv 6) (fun _ _ => rfl)))
    (pss_cons (ps_set (i := 0) scput_out.nd rfl (by first | exact Or.inl rfl | exact Or.inr rfl) (C8.pe_c c_turned_table hr (by decide) (by rfl) (pa_cons (pv 0) (pa_cons (pv 2) (pa_cons (pv 4) (pa_cons (pv 6) pa_nil))))))
    (pss_one (ps_par (i := 1) (j := 2) rfl scput_out.nd rfl rfl (by decide) rfl rfl (pa_cons (pe_op op_catL (pe_op op_catL (pe_slice (sl_list : SlR _ (rSlL K)) (pv 1) po_none (po_some (pv 4))) (pe_lst (pa_cons (pv 6) pa_nil))) (pe_slice (sl_list : SlR _ (rSlL K)) (pv 1) (po_some (pe_op op_add (pv 4) pe_int)) po_none)) (pa_cons (pv 7) pa_nil)) (by rfl))))))) pss_nil))))
    (pss_one (ps_ret (pe_tup (pa_cons (pv 0) (pa_cons (pv 1) (pa_cons (pv 2) pa_nil))))))), ?_⟩
  rintro F vs ds r ⟨x, many, tot, n, m, rfl, ok, rfl⟩ hv
  obtain ⟨v_table, v_basis, v_whole, v_many, rfl, r_table, r_basis, r_whole, r_many⟩ := dq4 hv
  replace r_table : Rp K F v_table x.tb := r_table
  replace r_basis : Rp K F v_basis (natI x.bs) := r_basis
  replace r_whole : Rp K F v_whole x.w := r_whole
  replace r_many : Rp K F v_many (many : Int) := r_many
  have hmt := ok.mt
  have hmn := ok.hm
  have hN := (ok.tb 0 (Nat.zero_le _)).hN
  have hn := (ok.tb 0 (Nat.zero_le _)).hr
  have hbl : x.bs.length = m := ok.bs 0 (Nat.zero_le _)
  have hbi : (natI x.bs).length = m := by rw [natI_len, hbl]
  let Y : Nat → Lp.Stt := fun k => poN many x k
  refine er_for (ei_rng1 (ev_lenL (ev_var (i := 1) rfl r_basis)) ?_ ?_) (fun i F' σ' => ∃ v0 v1 v2 o4 o5 o6 o7, σ' = [some v0, some v1, some v2, some v_many, o4, o5, o6, o7, none] ∧ Rp K F' v0 (Y i).tb ∧ Rp K F' v1 (natI (Y i).bs) ∧ Rp K F' v2 (Y i).w) (fun i F1 F2 σ' s h => ?_) ⟨v_table, v_basis, v_whole, none, none, none, none, rfl, r_table, r_basis, r_whole⟩ (fun i F1 v y σ' s1 hy ra hp => ?_) (fun F1 σ' s1 hp => ?_)
  · rw [hbi]
    omega
  · rw [hbi]
    omega
  · obtain ⟨v0, v1, v2, o4, o5, o6, o7, rfl, h0, h1, h2⟩ := h
    exact ⟨v0, v1, v2, o4, o5, o6, o7, rfl, h0.mono s, h1.mono s, h2.mono s⟩
  · obtain ⟨v0, v1, v2, o4, o5, o6, o7, rfl, r_table1, r_basis1, r_whole1⟩ := hp
    have him : i < m := by
      have := (List.getElem?_eq_some_iff.mp hy).1
      rw [rangeL_len, hbi] at this
      omega
    rw [rangeL_get (by rw [hbi]; omega)] at hy
    have hy := Option.some.inj hy
    have hy : y = (i : Int) := by omega
    subst hy
    have r_many1 := r_many.mono s1
    have tk := ok.tb i (by omega)
    have hw := ok.w i (by omega)
    have hat : i < n := by omega
    have hbl : (poN many x i).bs.length = m := ok.bs i (by omega)
    refine lcb_name (enk_setP (ev_lc (ei_rng1 (ev_var (i := 3) rfl r_many1) ?_ ?_) (fun F1 v1 x1 s1 hx1 r1 => lcb_name ⟨rfl, (et_test (ev_ne (ev_nthL (ev_nthL (ev_var (i := 0) rfl (r_table1.mono s1)) (ev_var (i := 4) rfl (ra.mono s1)) ?_) (ev_var (i := 6) rfl r1) ?_) ev_int)), fun hp1 => (ev_var (i := 6) rfl r1)⟩)) fun F2 v5 s2 rps0 => ?_)
    · omega
    · omega
    · exact tk.ix1 hat
    · have := mem_rangeL hx1
      rw [nth_row, tk.row hat]
      omega
    replace r_table1 := r_table1.mono s2
    replace r_basis1 := r_basis1.mono s2
    replace r_whole1 := r_whole1.mono s2
    replace r_many1 := r_many1.mono s2
    replace ra := ra.mono s2
    obtain ⟨L, hL⟩ : ∃ L, L = (((rangeL 0 (many : Int)).filter fun x1 => decide (nth (nth (Y i).tb (i : Int)) x1 ≠ 0)).map fun x => x) := ⟨_, rfl⟩
    have rps : Rp K F2 v5 L := by rw [hL]; exact rps0
    clear rps0
    have hQ : (fun (k : Nat) => decide (nth (nth (Y i).tb (i : Int)) (k : Int) ≠ 0)) = fun k => decide (entL (Y i).tb i k ≠ 0) := by
      funext k
      rw [nth_ent]
    refine en_if (et_and (et_test (ev_b0 (ev_nthL (ev_var (i := 1) rfl r_basis1) (ev_var (i := 4) rfl ra) ?_) (ev_var (i := 3) rfl r_many1))) fun h1 => (et_test (ev_ne (ev_var (i := 5) rfl rps) (ev_dL es_nil)))) (fun h => ?_) (fun h => en_next fun F3 s3 => ⟨v0, v1, v2, _, _, _, _, rfl, ?_⟩)
    · rw [natI_len]
      show _ ∧ _ < ((poN many x i).bs.length : Int)
      omega
    · obtain ⟨h1, h2⟩ := (Bool.and_eq_true _ _).mp h
      rw [nth_bs (show i < (Y i).bs.length by show i < (poN many x i).bs.length; omega)] at h1
      have h1 : (many : Int) ≤ ((bf (Y i).bs i : Nat) : Int) := of_decide_eq_true h1
      have h1 : many ≤ bf (Y i).bs i := by omega
      have h2 : L ≠ [] := of_decide_eq_true h2
      cases e : (List.range many).find? (fun p => decide (entL (Y i).tb i p ≠ 0)) with
      | none =>
        rw [← hQ] at e
        exact absurd (hL.trans (places_none (Q := fun x1 => decide (nth (nth (Y i).tb (i : Int)) x1 ≠ 0)) e)) h2
      | some p =>
        have ey : Y (i + 1) = ⟨turnedL (sgL (Y i).tb i (if entL (Y i).tb i p < 0 then -1 else 1)) (Y i).w i p, putL (Y i).bs i p, (if entL (Y i).tb i p < 0 then -1 else 1) * entL (Y i).tb i p⟩ := by
          show poS many i (Y i) = _
          unfold poS
          rw [e]
          exact if_pos h1
        rw [← hQ] at e
        obtain ⟨r, hr⟩ := places_some (Q := fun x1 => decide (nth (nth (Y i).tb (i : Int)) x1 ≠ 0)) e
        rw [← hL] at hr
        have hp : p < many := by
          have := List.mem_of_find?_eq_some e
          simpa using this
        have hp2 : p < tot + 1 := by omega
        refine enk_setP (x := (p : Int)) (Ev.cast (ev_nthL (ev_var (i := 5) rfl rps) ev_int ?_) (by rw [hr]; rfl)) fun F3 v6 s3 rp => ?_
        · exact len0 h2
        replace r_table1 := r_table1.mono s3
        replace r_basis1 := r_basis1.mono s3
        replace r_whole1 := r_whole1.mono s3
        replace r_many1 := r_many1.mono s3
        replace ra := ra.mono s3
        have hi0 : i < (Y i).tb.length := by rw [tk.rows]; omega
        obtain ⟨ε, hε⟩ : ∃ ε : Int, ε = (if entL (Y i).tb i p < 0 then -1 else 1) := ⟨_, rfl⟩
        have hε1 : ε = 1 ∨ ε = -1 := by rw [hε]; split <;> simp
        rw [← hε] at ey
        have hent : ∀ a b, b < tot + 1 → entL (sgL (Y i).tb i ε) a b = if a = i then ε * entL (Y i).tb i b else entL (Y i).tb a b := fun a b hb => Lp.sgL_ent hε1 hi0 tk.cols hb
        have tsg : TbOk (sgL (Y i).tb i ε) n (tot + 1) := ⟨by rw [Lp.sgL_len hi0, tk.rows], Lp.sgL_cols hi0 tk.cols, fun a b ha hb => by
          rw [hent a b hb]
          split
          · have := tk.small i b hat hb
            rcases hε1 with z | z <;> rw [z]
            · rwa [Int.one_mul]
            · rw [Int.neg_mul, Int.one_mul, Int.natAbs_neg]; exact this
          · exact tk.small a b ha hb, tk.hr, tk.hN⟩
        have tk1 : TbOk (turnedL (sgL (Y i).tb i ε) (Y i).w i p) n (tot + 1) := by
          have := ok.tb (i + 1) (by omega)
          rw [show poN many x (i + 1) = _ from ey] at this
          exact this
        refine en_seq (M := fun F' σ' => ∃ vt, σ' = [some vt, some v1, some v2, some v_many, some v, some v5, some v6, o7, none] ∧ Rp K F' vt (sgL (Y i).tb i ε)) (en_if (et_test (ev_b0 (ev_nthL (ev_nthL (ev_var (i := 0) rfl r_table1) (ev_var (i := 4) rfl ra) ?_) (ev_var (i := 6) rfl rp) ?_) ev_int)) (fun h3 => en_set (ev_catL (ev_catL (ev_slL (ev_var (i := 0) rfl r_table1) eo_none (eo_some (ev_var (i := 4) rfl ra))) (ev_dL (es_cons (ev_lc1 (ei_list (ev_nthL (ev_var (i := 0) rfl r_table1) (ev_var (i := 4) rfl ra) ?_)) (fun F1 v1 x1 s1 hx1 r1 => lcb_name ⟨rfl, (ev_u (ev_var (i := 8) rfl r1))⟩)) es_nil)) ?_) (ev_slL (ev_var (i := 0) rfl r_table1) (eo_some (ev_i0 (ev_var (i := 4) rfl ra) ev_int)) eo_none) ?_) fun F4 v7 s4 r7 => ⟨v7, rfl, ?_⟩) (fun h3 => en_next fun F4 s4 => ⟨v0, rfl, ?_⟩)) fun F4 σ4 s4 h4 => ?_
        · exact tk.ix1 hat
        · exact tk.ix2 hat hp2
        · exact tk.ix1 hat
        · show (cutL (Y i).tb none (some (i : Int))).length + 1 ≤ sizeLine
          rw [cutL_take, List.length_take]
          have h9 : (Y i).tb.length < sizeLine := tk.size
          omega
        · rw [cutL_take, show (i : Int) + 1 = ((i + 1 : Nat) : Int) by omega, cutL_drop, List.length_append, List.length_take, List.length_drop]
          have h9 : (Y i).tb.length < sizeLine := tk.size
          show _ + 1 + _ ≤ sizeLine
          omega
        · rw [nth_ent] at h3
          have h3 : entL (Y i).tb i p < 0 := of_decide_eq_true h3
          rw [if_pos h3] at hε
          rw [cutL_take, show (i : Int) + 1 = ((i + 1 : Nat) : Int) by omega, cutL_drop, nth_row] at r7
          rw [hε]
          exact r7
        · rw [nth_ent] at h3
          have h3 : ¬ entL (Y i).tb i p < 0 := of_decide_eq_false h3
          rw [if_neg h3] at hε
          rw [hε]
          exact r_table1.mono s4
        obtain ⟨vt, rfl, r_sg⟩ := h4
        replace r_basis1 := r_basis1.mono s4
        replace r_whole1 := r_whole1.mono s4
        replace ra := ra.mono s4
        replace rp := rp.mono s4
        refine enk_setP (x := ε * entL (Y i).tb i p) (Ev.cast (ev_nthL (ev_nthL (ev_var (i := 0) rfl r_sg) (ev_var (i := 4) rfl ra) ?_) (ev_var (i := 6) rfl rp) ?_) ?_) fun F5 v8 s5 rs => ?_
        · exact tsg.ix1 hat
        · exact tsg.ix2 hat hp2
        · rw [nth_ent, hent i p hp2, if_pos rfl]
        replace r_sg := r_sg.mono s5
        replace r_basis1 := r_basis1.mono s5
        replace r_whole1 := r_whole1.mono s5
        replace ra := ra.mono s5
        replace rp := rp.mono s5
        refine enk_setP (ev_call (ea_cons (ev_var (i := 0) rfl r_sg) (ea_cons (ev_var (i := 2) rfl r_whole1) (ea_cons (ev_var (i := 4) rfl ra) (ea_cons (ev_var (i := 6) rfl rp) ea_nil)))) (R_turned_table_mk tsg hat hp2 hw.1 hw.2)) fun F6 v9 s6 r_tn => ?_
        replace r_basis1 := r_basis1.mono s6
        replace ra := ra.mono s6
        replace rp := rp.mono s6
        replace rs := rs.mono s6
        refine en_par (x := natI (putL (Y i).bs i p)) (Ev.cast (ev_catL (ev_catL (ev_slL (ev_var (i := 1) rfl r_basis1) eo_none (eo_some (ev_var (i := 4) rfl ra))) (ev_dL (es_cons (ev_var (i := 6) rfl rp) es_nil)) ?_) (ev_slL (ev_var (i := 1) rfl r_basis1) (eo_some (ev_i0 (ev_var (i := 4) rfl ra) ev_int)) eo_none) ?_) natI_put) (ev_var (i := 7) rfl rs) fun F7 vb vw s7 rb rw_ => ⟨v9, vb, vw, _, _, _, _, rfl, ?_, ?_, ?_⟩
        · show (cutL (natI (Y i).bs) none (some (i : Int))).length + 1 ≤ sizeLine
          rw [cutL_take, List.length_take, natI_len]
          have h1 : (Y i).bs.length = m := ok.bs i (by omega)
          unfold sizeLine
          omega
        · rw [cutL_take, show (i : Int) + 1 = ((i + 1 : Nat) : Int) by omega, cutL_drop, List.length_append, List.length_take, List.length_drop, natI_len]
          have h1 : (Y i).bs.length = m := ok.bs i (by omega)
          show _ + 1 + _ ≤ sizeLine
          unfold sizeLine
          omega
        · rw [ey]
          exact r_tn.mono s7
        · rw [ey]
          exact rb
        · rw [ey]
          exact rw_
    · have ey : Y (i + 1) = Y i := by
        show poS many i (Y i) = _
        unfold poS
        cases e : (List.range many).find? (fun p => decide (entL (Y i).tb i p ≠ 0)) with
        | none => rfl
        | some p =>
          refine if_neg fun hc => ?_
          rw [← hQ] at e
          obtain ⟨r, hr⟩ := places_some (Q := fun x1 => decide (nth (nth (Y i).tb (i : Int)) x1 ≠ 0)) e
          rw [← hL] at hr
          rw [nth_bs (show i < (Y i).bs.length by show i < (poN many x i).bs.length; omega)] at h
          rcases Bool.and_eq_false_iff.mp h with h | h
          · have : ¬ (many : Int) ≤ ((bf (Y i).bs i : Nat) : Int) := of_decide_eq_false h
            omega
          · exact of_decide_eq_false h (by rw [hr]; exact fun z => nomatch z)
      rw [ey]
      exact ⟨r_table1.mono s3, r_basis1.mono s3, r_whole1.mono s3⟩
  · obtain ⟨v0, v1, v2, o4, o5, o6, o7, rfl, r_table1, r_basis1, r_whole1⟩ := hp
    rw [rangeL_len, hbi, show ((m : Int) - 0).toNat = m by omega] at r_table1 r_basis1 r_whole1
    exact er_ret (evd_stt (x := poN many x m) (ev_var (i := 0) rfl r_table1) (ev_var (i := 1) rfl r_basis1) (ev_var (i := 2) rfl r_whole1))

theorem tb_of {rows : List (List Int)} {totals gains : List Int} {many m : Nat} {s : Int} {x : Lp.Stt} (g : Lp.GoodF rows totals gains many m s x) (hm : m ≤ 900) (hmm : many ≤ 90000) {M C : Nat} (hM : ∀ j r, j < many + m + 1 → r < m → (Lp.colA rows totals many m j r).natAbs ≤ M) (hC : ∀ k j, k < 2 → j < many + m + 1 → (Lp.csL gains many m k j).natAbs ≤ C) (hC1 : 1 ≤ C) (hK : (m + 1) * (C * (Lp.fct m * Lp.pw M m)) < 2 ^ 4000) :
    TbOk x.tb (m + 2) (many + m + 1) ∧ x.bs.length = m ∧ 0 < x.w ∧ x.w.natAbs < 2 ^ 4000 := by
  have b := Lp.Good.bound (K := (m + 1) * (C * (Lp.fct m * Lp.pw M m))) g hM hC hC1 (Nat.le_refl _)
  exact ⟨⟨g.rows, g.cols, fun i j hi hj => Nat.lt_of_le_of_lt (b.2 i j hi hj) hK, by omega, by omega⟩, g.len, g.tab.pos, Nat.lt_of_le_of_lt b.1 hK⟩
/-- what solved asks -/
structure SolveOk (rows : List (List Int)) (totals gains : List Int) (many m : Nat) : Prop where
  fit : Lp.Fit rows totals gains many m
  hm : m ≤ 900
  hmm : many ≤ 90000
  size : ∃ M C, (∀ j r, j < many + m + 1 → r < m → (Lp.colA rows totals many m j r).natAbs ≤ M) ∧ (∀ k j, k < 2 → j < many + m + 1 → (Lp.csL gains many m k j).natAbs ≤ C) ∧ 1 ≤ C ∧ (m + 1) * (C * (Lp.fct m * Lp.pw M m)) < 2 ^ 4000
def R_solved : List PyData → PyData → Prop := fun ds r => ∃ (rows : List (List Int)) (totals gains : List Int) (many m : Nat), ds = [Datum.toD rows, Datum.toD totals, Datum.toD gains] ∧ SolveOk rows totals gains many m ∧ r = resD (Lp.solvedL rows totals gains many m)
abbrev st0L (rows : List (List Int)) (totals gains : List Int) (many m : Nat) : Lp.Stt := Lp.st0 rows totals gains many m
theorem k1_of {rows : List (List Int)} {totals gains : List Int} {many m : Nat} (h : SolveOk rows totals gains many m) : RiseOk (st0L rows totals gains many m) m many (many + m) (m + 2) m := by
  have W := Lp.way h.fit
  obtain ⟨M, C, hM, hC, hC1, hK⟩ := h.size
  have t := fun k => tb_of (W.all1 k) h.hm h.hmm hM hC hC1 hK
  refine ⟨fun k => (t k).1, fun k => (t k).2.1, fun k => (t k).2.2, fun k p e => Lp.out1 (W.all1 k) e, W.done1, by omega, by omega, by omega⟩
theorem k2_of {rows : List (List Int)} {totals gains : List Int} {many m : Nat} (h : SolveOk rows totals gains many m) (hz : entL (Lp.s1L rows totals gains many m).tb m (many + m) = 0) : PoOk (Lp.s1L rows totals gains many m) many (many + m) (m + 2) m := by
  have W := Lp.way h.fit
  obtain ⟨M, C, hM, hC, hC1, hK⟩ := h.size
  have t := fun k hk => tb_of ((W.all2 hz k hk).good.choose_spec) h.hm h.hmm hM hC hC1 hK
  exact ⟨fun k hk => (t k hk).1, fun k hk => (t k hk).2.1, fun k hk => (t k hk).2.2, by omega, by omega⟩
theorem k3_of {rows : List (List Int)} {totals gains : List Int} {many m : Nat} (h : SolveOk rows totals gains many m) (hz : entL (Lp.s1L rows totals gains many m).tb m (many + m) = 0) : RiseOk (poN many (Lp.s1L rows totals gains many m) m) (m + 1) many (many + m) (m + 2) m := by
  have W := Lp.way h.fit
  obtain ⟨M, C, hM, hC, hC1, hK⟩ := h.size
  have t := fun k => tb_of ((W.all3 hz k).1.choose_spec) h.hm h.hmm hM hC hC1 hK
  refine ⟨fun k => (t k).1, fun k => (t k).2.1, fun k => (t k).2.2, fun k p e => Lp.out2 h.fit (W.all3 hz k).1.choose_spec (W.all3 hz k).2 e, W.done3 hz, by omega, by omega, by omega⟩
theorem g1_of {rows : List (List Int)} {totals gains : List Int} {many m : Nat} (h : SolveOk rows totals gains many m) : TbOk (Lp.s1L rows totals gains many m).tb (m + 2) (many + m + 1) ∧ (Lp.s1L rows totals gains many m).bs.length = m := by
  have W := Lp.way h.fit
  obtain ⟨n1, d1⟩ := W.done1
  have e : Lp.s1L rows totals gains many m = itL m many (many + m) n1 (st0L rows totals gains many m) := Lp.riseL_eq d1
  have k := k1_of h
  rw [e]
  exact ⟨k.tb n1, k.bs n1⟩
theorem g3_of {rows : List (List Int)} {totals gains : List Int} {many m : Nat} (h : SolveOk rows totals gains many m) (hz : entL (Lp.s1L rows totals gains many m).tb m (many + m) = 0) : TbOk (Lp.s3L rows totals gains many m).tb (m + 2) (many + m + 1) ∧ (Lp.s3L rows totals gains many m).bs.length = m := by
  have W := Lp.way h.fit
  obtain ⟨n1, d1⟩ := W.done3 hz
  have e : Lp.s3L rows totals gains many m = itL (m + 1) many (many + m) n1 (poN many (Lp.s1L rows totals gains many m) m) := Lp.riseL_eq d1
  have k := k3_of h hz
  rw [e]
  exact ⟨k.tb n1, k.bs n1⟩
theorem natI_bs0 {many m : Nat} : ((rangeL 0 (m : Int)).map fun k => (many : Int) + k) = natI (Lp.bs0L many m) := by
  rw [range_map]
  unfold natI Lp.bs0L
  rw [List.map_map]
  refine List.map_congr_left fun k _ => ?_
  show (many : Int) + (k : Int) = ((many + k : Nat) : Int)
  omega
theorem scsolved : FnScope ["rows", "totals", "gains", "many", "count", "table", "number", "row", "basis", "whole", "weights", "at", "column", "own", "k"] ["rows", "totals", "gains"] (defScope (top 33)) := ⟨rfl, rfl, rfl, by decide +kernel, rfl, by decide +kernel, by decide +kernel⟩
theorem c_solved (B : Bn mg) (D : DefIn K mg "solved" (top 33)) (c_put_out : C8.Cal P w K mg base 2 "put_out" (SpG K R_put_out) []) (c_risen : C8.Cal P w K mg base 2 "risen" (SpG K R_risen) []) : C8.Cal P w K mg base 3 "solved" (SpG K R_solved) [] := by
  refine cal_pure (R := R_solved) D scsolved (fun _ _ _ _ _ _ us hl => match us, hl with | [_, _, _], _ => rfl) (by
    rintro ds r ⟨_, _, _, _, _, rfl, _⟩; rfl) fun f cdv A outer s H E hr => ⟨_, (pss_cons (ps_asg (pe_tup (pa_cons (pe_callB (cr_lenX : CallR _ _ (rLenX K)) (by rfl) B.len PySem.boot_len (pa_cons (pv 2) pa_nil)) (pa_cons (pe_callB (cr_lenX : CallR _ _ (rLenX K)) (by rfl) B.len PySem.boot_len (pa_cons (pv 0) pa_nil)) pa_nil))) (pg_tup (n := 2) rfl (pgs_cons (pg_name (i := 3) scsolved.nd rfl (by first | exact Or.inl rfl | exact Or.inr rfl)) (pgs_cons (pg_name (i := 4) scsolved.nd rfl (by first | exact Or.inl rfl | exact Or.inr rfl)) pgs_nil)) : PG _ _ (gTup K 2 _)))
    (pss_cons (ps_set (i := 5) scsolved.nd rfl (by first | exact Or.inl rfl | exact Or.inr rfl) (pe_lst pa_nil))
    (pss_cons (ps_for PassesOwn.never rfl (pi_enumX (by rfl) B.enumerate (pa_cons (pv 0) pa_nil) : PI _ _ _ (iEnumX K _)) (pg_tup (n := 2) rfl (pgs_cons (pg_name (i := 6) scsolved.nd rfl (by first | exact Or.inl rfl | exact Or.inr rfl)) (pgs_cons (pg_name (i := 7) scsolved.nd rfl (by first | exact Or.inl rfl | exact Or.inr rfl)) pgs_nil)) : PG _ _ (gTup K 2 _)) (pss_one (ps_expr (pe_bm PySem.F.plainAttrs_list PySem.F.slot_list_append PySem.F.type_list_append mt_append (pv 5) (pa_cons (pe_op op_catL (pe_op op_catL (pe_callTy (cr_listX : CallR _ _ (rListX K)) (by rfl) B.list PyProof.Rows.boot_list (pa_cons (pv 7) pa_nil)) (pe_lc rfl scsolved.nd (pi_range1 (by rfl) B.range (pa_cons (pv 4) pa_nil)) (blkOk_by (own := [("k", 14)]) (by kernel_rfl)) (fun _ _ _ _ _ => (pg_name (i := 14) scsolved.nd rfl (by first | exact Or.inl rfl | exact Or.inr rfl))) (fun _ _ _ _ _ => pts_nil) (fun _ _ _ _ _ => (pe_ifExp (pt_cmpR (op_eqX hr.units : OpR _ _ (rEqX K)) (pv 14) (pv 6) (nomark _)) pe_int pe_int)))) (pe_lst (pa_cons (pe_ix (ix_seq : IxR _ (rIx K)) (pv 1) (pv 6) (fun _ _ => rfl)) pa_nil))) pa_nil)))))
    (pss_cons (ps_expr (pe_bm PySem.F.plainAttrs_list PySem.F.slot_list_append PySem.F.type_list_append mt_append (pv 5) (pa_cons (pe_op op_catL (pe_op op_catL (pe_lc rfl scsolved.nd (pi_range1 (by rfl) B.range (pa_cons (pv 3) pa_nil)) (blkOk_by (own := [("k", 14)]) (by kernel_rfl)) (fun _ _ _ _ _ => (pg_name (i := 14) scsolved.nd rfl (by first | exact Or.inl rfl | exact Or.inr rfl))) (fun _ _ _ _ _ => pts_nil) (fun _ _ _ _ _ => (pe_un un_neg (pe_callB (cr_sumX rfl : CallR _ _ (rSumX K)) (by rfl) B.sum PyProof.Rows.boot_sum (pa_cons (pe_lc rfl scsolved.nd (pi_seqX (pv 0) : PI _ _ _ (iSeqX K _)) (blkOk_by (own := [("row", 7)]) (by kernel_rfl)) (fun _ _ _ _ _ => (pg_name (i := 7) scsolved.nd rfl (by first | exact Or.inl rfl | exact Or.inr rfl))) (fun _ _ _ _ _ => pts_nil) (fun _ _ _ _ _ => (pe_ix (ix_seq : IxR _ (rIx K)) (pv 7) (pv 14) (fun _ _ => rfl)))) pa_nil))))) (pe_op op_rep (pe_lst (pa_cons pe_int pa_nil)) (pv 4))) (pe_lst (pa_cons (pe_un un_neg (pe_callB (cr_sumX rfl : CallR _ _ (rSumX K)) (by rfl) B.sum PyProof.Rows.boot_sum (pa_cons (pv 1) pa_nil))) pa_nil))) pa_nil)))
    (pss_cons (ps_expr (pe_bm PySem.F.plainAttrs_list PySem.F.slot_list_append PySem.F.type_list_append mt_append (pv 5) (pa_cons (pe_op op_catL (pe_lc rfl scsolved.nd (pi_seqX (pv 2) : PI _ _ _ (iSeqX K _)) (blkOk_by (own := [("own", 13)]) (by kernel_rfl)) (fun _ _ _ _ _ => (pg_name (i := 13) scsolved.nd rfl (by first | exact Or.inl rfl | exact Or.inr rfl))) (fun _ _ _ _ _ => pts_nil) (fun _ _ _ _ _ => (pe_un un_neg (pv 13)))) (pe_op op_rep (pe_lst (pa_cons pe_int pa_nil)) (pe_op op_add (pv 4) pe_int))) pa_nil)))
    (pss_cons (ps_setLc (i := 8) rfl scsolved.nd rfl rfl (by rfl) (pi_range1 (by rfl) B.range (pa_cons (pv 4) pa_nil)) (blkOk_by (own := [("number", 6)]) (by kernel_rfl)) (fun _ _ _ _ _ => (pg_name (i := 6) scsolved.nd rfl (by first | exact Or.inl rfl | exact Or.inr rfl))) (fun _ _ _ _ _ => pts_nil) (fun _ _ _ _ _ => (pe_op op_add (pv 3) (pv 6))))
    (pss_cons (ps_asg (C8.pe_c c_risen hr (by decide) (by rfl) (pa_cons (pv 5) (pa_cons (pv 8) (pa_cons pe_int (pa_cons (pv 4) (pa_cons (pv 3) pa_nil)))))) (pg_tup (n := 3) rfl (pgs_cons (pg_name (i := 5) scsolved.nd rfl (by first | exact Or.inl rfl | exact Or.inr rfl)) (pgs_cons (pg_name (i := 8) scsolved.nd rfl (by first | exact Or.inl rfl | exact Or.inr rfl)) (pgs_cons (pg_name (i := 9) scsolved.nd rfl (by first | exact Or.inl rfl | exact Or.inr rfl)) pgs_nil))) : PG _ _ (gTup K 3 _)))
    (pss_cons (ps_if (pt_cmpR (op_neX hr.units : OpR _ _ (rNeX K)) (pe_ix (ix_seq : IxR _ (rIx K)) (pe_ix (ix_seq : IxR _ (rIx K)) (pv 5) (pv 4) (fun _ _ => rfl)) (pe_un un_neg pe_int) (fun _ _ => rfl)) pe_int (nomark _)) (pss_one (ps_ret (pe_tup (pa_cons pe_str (pa_cons (pv 9) (pa_cons (pe_lc rfl scsolved.nd (pi_range1 (by rfl) B.range (pa_cons (pv 4) pa_nil)) (blkOk_by (own := [("k", 14)]) (by kernel_rfl)) (fun _ _ _ _ _ => (pg_name (i := 14) scsolved.nd rfl (by first | exact Or.inl rfl | exact Or.inr rfl))) (fun _ _ _ _ _ => pts_nil) (fun _ _ _ _ _ => (pe_op op_sub (pe_ix (ix_seq : IxR _ (rIx K)) (pe_ix (ix_seq : IxR _ (rIx K)) (pv 5) (pv 4) (fun _ _ => rfl)) (pe_op op_add (pv 3) (pv 14)) (fun _ _ => rfl)) (pv 9)))) pa_nil)))))) pss_nil)
    (pss_cons (ps_asg (C8.pe_c c_put_out hr (by decide) (by rfl) (pa_cons (pv 5) (pa_cons (pv 8) (pa_cons (pv 9) (pa_cons (pv 3) pa_nil))))) (pg_tup (n := 3) rfl (pgs_cons (pg_name (i := 5) scsolved.nd rfl (by first | exact Or.inl rfl | exact Or.inr rfl)) (pgs_cons (pg_name (i := 8) scsolved.nd rfl (by first | exact Or.inl rfl | exact Or.inr rfl)) (pgs_cons (pg_name (i := 9) scsolved.nd rfl (by first | exact Or.inl rfl | exact Or.inr rfl)) pgs_nil))) : PG _ _ (gTup K 3 _)))
    (pss_cons (ps_asg (C8.pe_c c_risen hr (by decide) (by rfl) (pa_cons (pv 5) (pa_cons (pv 8) (pa_cons (pv 9) (pa_cons (pe_op op_add (pv 4) pe_int) (pa_cons (pv 3) pa_nil)))))) (pg_tup (n := 3) rfl (pgs_cons (pg_name (i := 5) scsolved.nd rfl (by first | exact Or.inl rfl | exact Or.inr rfl)) (pgs_cons (pg_name (i := 8) scsolved.nd rfl (by first | exact Or.inl rfl | exact Or.inr rfl)) (pgs_cons (pg_name (i := 9) scsolved.nd rfl (by first | exact Or.inl rfl | exact Or.inr rfl)) pgs_nil))) : PG _ _ (gTup K 3 _)))
    (pss_cons (ps_set (i := 10) scsolved.nd rfl (by first | exact Or.inl rfl | exact Or.inr rfl) (pe_op op_rep (pe_lst (pa_cons pe_int pa_nil)) (pv 3)))
    (pss_cons (ps_for PassesOwn.never rfl (pi_enumX (by rfl) B.enumerate (pa_cons (pv 8) pa_nil) : PI _ _ _ (iEnumX K _)) (pg_tup (n := 2) rfl (pgs_cons (pg_name (i := 11) scsolved.nd rfl (by first | exact Or.inl rfl | exact Or.inr rfl)) (pgs_cons (pg_name (i := 12) scsolved.nd rfl (by first | exact Or.inl rfl | exact Or.inr rfl)) pgs_nil)) : PG _ _ (gTup K 2 _)) (pss_one (ps_if (pt_cmpR op_lt (pv 12) (pv 3) (nomark _)) (pss_one (ps_asg (pe_ix (ix_seq : IxR _ (rIx K)) (pe_ix (ix_seq : IxR _ (rIx K)) (pv 5) (pv 11) (fun _ _ => rfl)) (pe_un un_neg pe_int) (fun _ _ => rfl)) (pg_sub (pv 10) (pv 12) set_list))) pss_nil)))
    (pss_one (ps_ret (pe_tup (pa_cons pe_str (pa_cons (pv 9) (pa_cons (pv 10) (pa_cons (pe_slice (sl_list : SlR _ (rSlL K)) (pe_ix (ix_seq : IxR _ (rIx K)) (pv 5) (pe_op op_add (pv 4) pe_int) (fun _ _ => rfl)) (po_some (pv 3)) (po_some (pe_op op_add (pv 3) (pv 4)))) pa_nil))))))))))))))))))), ?_⟩
  rintro F vs ds r ⟨rows, totals, gains, many, m, rfl, ok, rfl⟩ hv
  obtain ⟨v_rows, v_totals, v_gains, rfl, r_rows, r_totals, r_gains⟩ := dq3 hv
  replace r_rows : Rp K F v_rows rows := r_rows
  replace r_totals : Rp K F v_totals totals := r_totals
  replace r_gains : Rp K F v_gains gains := r_gains
  have hrl := ok.fit.rl
  have hcl := ok.fit.cl
  have htl := ok.fit.tl
  have hgl := ok.fit.gl
  have hm := ok.hm
  have hmm := ok.hmm
  have k1 := k1_of ok
  have t1 := (g1_of ok).1
  have b1 := (g1_of ok).2
  refine er_asg (x := ((many : Int), (m : Int))) (Ev.cast (ev_d2 (ev_lenL (ev_var (i := 2) rfl r_gains)) (ev_lenL (ev_var (i := 0) rfl r_rows))) (by rw [hgl, hrl])) fun F1 v1 s1 r1 => ?_
  refine lcb_two r1 fun v3 v4 r_many r_count => ?_
  have r_rows1 := r_rows.mono s1
  have r_totals1 := r_totals.mono s1
  have r_gains1 := r_gains.mono s1
  have r_many1 : Rp K F1 v3 (many : Int) := r_many
  have r_count1 : Rp K F1 v4 (m : Int) := r_count
  clear r_rows r_totals r_gains r_many r_count r1
  refine er_cell (α := List Int) (i := 5) fresh_nil fun D F2 s2 => ?_
  replace r_rows1 := r_rows1.mono s2
  replace r_totals1 := r_totals1.mono s2
  replace r_gains1 := r_gains1.mono s2
  replace r_many1 := r_many1.mono s2
  replace r_count1 := r_count1.mono s2
  refine elr_seq (α := List Int) (el_for (α := List Int) (ei_enumL (ev_var (i := 0) rfl r_rows1)) (fun i F' σ' ys => ∃ o6 o7, σ' = [some v_rows, some v_totals, some v_gains, some v3, some v4, some (.ref D), o6, o7, none, none, none, none, none, none, none] ∧ ys = (List.range i).map (Lp.row0 rows totals m)) (fun i F1 F2 σ' ys s h => h) ⟨none, none, rfl, rfl⟩ fun i F3 v y σ' ys s3 hy r hp => ?_) fun F3 σ' ys s3 hp => ?_
  · obtain ⟨o6, o7, rfl, rfl⟩ := hp
    obtain ⟨k, row⟩ := y
    obtain ⟨hi, rfl, rfl⟩ := enum_at (d := []) hy
    have hrow : (rows.getD i []).length = many := hcl _ (Lp.getD_mem hi)
    replace r_rows1 := r_rows1.mono s3
    replace r_totals1 := r_totals1.mono s3
    replace r_gains1 := r_gains1.mono s3
    replace r_many1 := r_many1.mono s3
    replace r_count1 := r_count1.mono s3
    refine lcb_two r fun vn vr rn rr => el_append rfl (y := Lp.row0 rows totals m i) (Ev.cast (ev_catL (ev_catL (ev_listL (ev_var (i := 7) rfl rr)) (ev_lc1 (ei_rng1 (ev_var (i := 4) rfl r_count1) ?_ ?_) (fun F1 v1 x1 s1 hx1 r1 => lcb_name ⟨rfl, (ev_if (et_test (ev_eq (ev_var (i := 14) rfl r1) (ev_var (i := 6) rfl (rn.mono s1)))) (fun h1 => ev_int) (fun h1 => ev_int))⟩)) ?_) (ev_dL (es_cons (ev_nthL (ev_var (i := 1) rfl r_totals1) (ev_var (i := 6) rfl rn) ?_) es_nil)) ?_) ?_) ?_ fun F4 s4 => ⟨_, _, rfl, ?_⟩
    · omega
    · omega
    · show (rows.getD i []).length + (List.map _ _).length ≤ sizeLine
      rw [hrow, List.length_map, rangeL_len]
      unfold sizeLine
      omega
    · rw [htl]
      omega
    · rw [List.length_append, List.length_map, rangeL_len]
      show (rows.getD i []).length + _ + 1 ≤ sizeLine
      rw [hrow]
      unfold sizeLine
      omega
    · unfold Lp.row0
      rw [range_map, nthE]
      congr 2
      refine List.map_congr_left fun k _ => ?_
      show (if decide ((k : Int) = (i : Int)) = true then (1 : Int) else 0) = _
      by_cases e : k = i
      · rw [if_pos e, if_pos (decide_eq_true (by omega))]
      · rw [if_neg e, if_neg (fun h => e (by have := of_decide_eq_true h; omega))]
    · rw [List.length_map, List.length_range]
      unfold sizeLine
      omega
    · rw [List.range_succ, List.map_append]
      rfl
  obtain ⟨o6, o7, rfl, rfl⟩ := hp
  rw [enum_len, hrl]
  replace r_rows1 := r_rows1.mono s3
  replace r_totals1 := r_totals1.mono s3
  replace r_gains1 := r_gains1.mono s3
  replace r_many1 := r_many1.mono s3
  replace r_count1 := r_count1.mono s3
  refine elr_seq (M := fun F' σ' ys => σ' = [some v_rows, some v_totals, some v_gains, some v3, some v4, some (.ref D), o6, o7, none, none, none, none, none, none, none] ∧ ys = (List.range m).map (Lp.row0 rows totals m) ++ [Lp.cost1L rows totals many m]) (el_append rfl (y := Lp.cost1L rows totals many m) (Ev.cast (ev_catL (ev_catL (ev_lc1 (ei_rng1 (ev_var (i := 3) rfl r_many1) ?_ ?_) (fun F1 v1 x1 s1 hx1 r1 => lcb_name ⟨rfl, (ev_u (ev_sumL (ev_lc1 (ei_list (ev_var (i := 0) rfl (r_rows1.mono s1))) (fun F2 v2 x2 s2 hx2 r2 => lcb_name ⟨rfl, (ev_nthL (ev_var (i := 7) rfl r2) (ev_var (i := 14) rfl (r1.mono s2)) ?_)⟩))))⟩)) (ev_rep ev_int (ev_var (i := 4) rfl r_count1) ?_) ?_) (ev_dL (es_cons (ev_u (ev_sumL (ev_var (i := 1) rfl r_totals1))) es_nil)) ?_) ?_) ?_ fun F4 s4 => ⟨rfl, rfl⟩) fun F4 σ' ys s4 hp => ?_
  · omega
  · omega
  · have := mem_rangeL hx1
    rw [hcl _ hx2]
    omega
  · omega
  · rw [List.length_map, rangeL_len, List.length_replicate]
    unfold sizeLine
    omega
  · rw [List.length_append, List.length_map, rangeL_len, List.length_replicate]
    show _ + 1 ≤ sizeLine
    unfold sizeLine
    omega
  · unfold Lp.cost1L
    rw [range_map]
    congr 2
  · rw [List.length_map, List.length_range]
    unfold sizeLine
    omega
  obtain ⟨rfl, rfl⟩ := hp
  replace r_rows1 := r_rows1.mono s4
  replace r_totals1 := r_totals1.mono s4
  replace r_gains1 := r_gains1.mono s4
  replace r_many1 := r_many1.mono s4
  replace r_count1 := r_count1.mono s4
  refine elr_seq (M := fun F' σ' ys => σ' = [some v_rows, some v_totals, some v_gains, some v3, some v4, some (.ref D), o6, o7, none, none, none, none, none, none, none] ∧ ys = Lp.tb0L rows totals gains many m) (el_append rfl (y := Lp.cost2L gains m) (Ev.cast (ev_catL (ev_lc1 (ei_list (ev_var (i := 2) rfl r_gains1)) (fun F1 v1 x1 s1 hx1 r1 => lcb_name ⟨rfl, (ev_u (ev_var (i := 13) rfl r1))⟩)) (ev_rep ev_int (ev_i0 (ev_var (i := 4) rfl r_count1) ev_int) ?_) ?_) ?_) ?_ fun F4 s4 => ⟨rfl, rfl⟩) fun F5 σ' ys s5 hp => ?_
  · omega
  · rw [List.length_map, List.length_replicate, hgl]
    unfold sizeLine
    omega
  · rfl
  · rw [List.length_append, List.length_map, List.length_range]
    show m + 1 < sizeLine
    unfold sizeLine
    omega
  obtain ⟨rfl, rfl⟩ := hp
  replace r_rows1 := r_rows1.mono s5
  replace r_totals1 := r_totals1.mono s5
  replace r_gains1 := r_gains1.mono s5
  replace r_many1 := r_many1.mono s5
  replace r_count1 := r_count1.mono s5
  refine elr_thaw fun F6 s6 r_table1 => ?_
  replace r_rows1 := r_rows1.mono s6
  replace r_totals1 := r_totals1.mono s6
  replace r_gains1 := r_gains1.mono s6
  replace r_many1 := r_many1.mono s6
  replace r_count1 := r_count1.mono s6
  refine er_set (x := natI (Lp.bs0L many m)) (Ev.cast (ev_lc1 (ei_rng1 (ev_var (i := 4) rfl r_count1) ?_ ?_) (fun F1 v1 x1 s1 hx1 r1 => lcb_name ⟨rfl, (ev_i0 (ev_var (i := 3) rfl (r_many1.mono s1)) (ev_var (i := 6) rfl r1))⟩)) natI_bs0) fun F7 v8 s7 r_basis1 => ?_
  · omega
  · omega
  replace r_table1 := r_table1.mono s7
  replace r_rows1 := r_rows1.mono s7
  replace r_totals1 := r_totals1.mono s7
  replace r_gains1 := r_gains1.mono s7
  replace r_many1 := r_many1.mono s7
  replace r_count1 := r_count1.mono s7
  refine er_asgD (evd_call (ea_cons (ev_var (i := 5) rfl r_table1) (ea_cons (ev_var (i := 8) rfl r_basis1) (ea_cons (x := (1 : Int)) ev_int (ea_cons (ev_var (i := 4) rfl r_count1) (ea_cons (ev_var (i := 3) rfl r_many1) ea_nil))))) ⟨st0L rows totals gains many m, m, many, many + m, m + 2, m, rfl, k1, rfl⟩) fun F8 v9 s8 r8 => ?_
  replace r_rows1 := r_rows1.mono s8
  replace r_totals1 := r_totals1.mono s8
  replace r_gains1 := r_gains1.mono s8
  replace r_many1 := r_many1.mono s8
  replace r_count1 := r_count1.mono s8
  clear r_table1 r_basis1
  obtain ⟨S1, hS1⟩ : ∃ S1, S1 = Lp.s1L rows totals gains many m := ⟨_, rfl⟩
  rw [← hS1] at t1 b1
  rw [show riseL m many (many + m) (st0L rows totals gains many m) = S1 from hS1.symm] at r8
  refine lcb_three r8 fun va vb vc ra rb rc => ?_
  have r_table1 : Rp K F8 va S1.tb := ra
  have r_basis1 : Rp K F8 vb (natI S1.bs) := rb
  have r_whole1 : Rp K F8 vc S1.w := rc
  refine er_if (et_test (ev_ne (ev_ixL (ev_nthL (ev_var (i := 5) rfl r_table1) (ev_var (i := 4) rfl r_count1) (t1.ix1 (by omega))) (ev_u ev_int) (t1.last (by omega))) ev_int)) (fun h => ?_) (fun h => er_next ?_)
  · have h : entL S1.tb m (many + m) ≠ 0 := of_decide_eq_true h
    refine er_stop (er_retD (evd_dT (ea_cons ev_str (ea_cons (ev_var (i := 9) rfl r_whole1) (ea_cons (x := (List.range m).map fun k => entL S1.tb m (many + k) - S1.w) (Ev.cast (ev_lc1 (ei_rng1 (ev_var (i := 4) rfl r_count1) ?_ ?_) (fun F1 v1 x1 s1 hx1 r1 => lcb_name ⟨rfl, (ev_i0 (ev_nthL (ev_nthL (ev_var (i := 5) rfl (r_table1.mono s1)) (ev_var (i := 4) rfl (r_count1.mono s1)) ?_) (ev_i0 (ev_var (i := 3) rfl (r_many1.mono s1)) (ev_var (i := 14) rfl r1)) ?_) (ev_var (i := 9) rfl (r_whole1.mono s1)))⟩)) ?_) ea_nil))) (by show 3 ≤ sizeLine; decide)) ?_)
    · omega
    · omega
    · exact t1.ix1 (by omega)
    · have := mem_rangeL hx1
      rw [nth_row, t1.row (by omega)]
      omega
    · rw [range_map]
      refine List.map_congr_left fun k _ => ?_
      show nth (nth S1.tb (m : Int)) ((many : Int) + (k : Int)) - S1.w = _
      rw [show (many : Int) + (k : Int) = ((many + k : Nat) : Int) by omega, nth_ent]
    · unfold Lp.solvedL
      rw [← hS1, if_pos h]
      rfl
  have h : entL S1.tb m (many + m) = 0 := Classical.not_not.mp (of_decide_eq_false h)
  have h0 : entL (Lp.s1L rows totals gains many m).tb m (many + m) = 0 := by rw [← hS1]; exact h
  have k2 := k2_of ok h0
  have k3 := k3_of ok h0
  have t3 := (g3_of ok h0).1
  have b3 := (g3_of ok h0).2
  rw [← hS1] at k2 k3
  refine er_asgD (evd_call (ea_cons (ev_var (i := 5) rfl r_table1) (ea_cons (ev_var (i := 8) rfl r_basis1) (ea_cons (ev_var (i := 9) rfl r_whole1) (ea_cons (ev_var (i := 3) rfl r_many1) ea_nil)))) ⟨S1, many, many + m, m + 2, m, rfl, k2, rfl⟩) fun F9 v10 s9 r9 => ?_
  replace r_rows1 := r_rows1.mono s9
  replace r_totals1 := r_totals1.mono s9
  replace r_gains1 := r_gains1.mono s9
  replace r_many1 := r_many1.mono s9
  replace r_count1 := r_count1.mono s9
  clear r_table1 r_basis1 r_whole1 ra rb rc r8
  refine lcb_three r9 fun va vb vc ra rb rc => ?_
  have r_table1 : Rp K F9 va (poN many S1 m).tb := ra
  have r_basis1 : Rp K F9 vb (natI (poN many S1 m).bs) := rb
  have r_whole1 : Rp K F9 vc (poN many S1 m).w := rc
  refine er_asgD (evd_call (ea_cons (ev_var (i := 5) rfl r_table1) (ea_cons (ev_var (i := 8) rfl r_basis1) (ea_cons (ev_var (i := 9) rfl r_whole1) (ea_cons (ev_i0 (ev_var (i := 4) rfl r_count1) ev_int) (ea_cons (ev_var (i := 3) rfl r_many1) ea_nil))))) ⟨poN many S1 m, m + 1, many, many + m, m + 2, m, rfl, k3, rfl⟩) fun F10 v11 s10 r10 => ?_
  replace r_rows1 := r_rows1.mono s10
  replace r_totals1 := r_totals1.mono s10
  replace r_gains1 := r_gains1.mono s10
  replace r_many1 := r_many1.mono s10
  replace r_count1 := r_count1.mono s10
  clear r_table1 r_basis1 r_whole1 ra rb rc r9
  obtain ⟨S3, hS3⟩ : ∃ S3, S3 = Lp.s3L rows totals gains many m := ⟨_, rfl⟩
  have e3 : riseL (m + 1) many (many + m) (poN many S1 m) = S3 := by rw [hS3, hS1]; rfl
  rw [e3] at r10
  rw [← hS3] at t3 b3
  refine lcb_three r10 fun va vb vc ra rb rc => ?_
  have r_table1 : Rp K F10 va S3.tb := ra
  have r_basis1 : Rp K F10 vb (natI S3.bs) := rb
  have r_whole1 : Rp K F10 vc S3.w := rc
  clear ra rb rc r10
  refine er_cell (α := Int) (i := 10) (fresh_rep ev_int (ev_var (i := 3) rfl r_many1) ?_) fun D2 F11 s11 => ?_
  · omega
  replace r_table1 := r_table1.mono s11
  replace r_basis1 := r_basis1.mono s11
  replace r_whole1 := r_whole1.mono s11
  replace r_rows1 := r_rows1.mono s11
  replace r_totals1 := r_totals1.mono s11
  replace r_gains1 := r_gains1.mono s11
  replace r_many1 := r_many1.mono s11
  replace r_count1 := r_count1.mono s11
  refine elr_seq (α := Int) (el_for (α := Int) (ei_enumL (ev_var (i := 8) rfl r_basis1)) (fun i F' σ' ys => ∃ o11 o12, σ' = [some v_rows, some v_totals, some v_gains, some v3, some v4, some va, o6, o7, some vb, some vc, some (.ref D2), o11, o12, none, none] ∧ ys = Lp.wtN S3 many (many + m) i) (fun i F1 F2 σ' ys s h => h) ⟨none, none, rfl, by rw [Int.toNat_natCast]; rfl⟩ fun i F12 v y σ' ys s12 hy r hp => ?_) fun F12 σ' ys s12 hp => ?_
  · obtain ⟨o11, o12, rfl, rfl⟩ := hp
    obtain ⟨k, z⟩ := y
    obtain ⟨hi, rfl, rfl⟩ := enum_at (d := default) hy
    rw [natI_len] at hi
    rw [← nthE, nth_bs hi] at r
    replace r_table1 := r_table1.mono s12
    replace r_basis1 := r_basis1.mono s12
    replace r_whole1 := r_whole1.mono s12
    replace r_rows1 := r_rows1.mono s12
    replace r_totals1 := r_totals1.mono s12
    replace r_gains1 := r_gains1.mono s12
    replace r_many1 := r_many1.mono s12
    replace r_count1 := r_count1.mono s12
    refine lcb_two r fun vat vcol rat rcol0 => ?_
    have rcol : Rp K F12 vcol ((bf S3.bs i : Nat) : Int) := rcol0
    refine el_if (et_test (ev_b0 (ev_var (i := 12) rfl rcol) (ev_var (i := 3) rfl r_many1))) (fun h => el_put (k := bf S3.bs i) rfl (ev_ixL (ev_nthL (ev_var (i := 5) rfl r_table1) (ev_var (i := 11) rfl rat) (t3.ix1 (by omega))) (ev_u ev_int) (t3.last (by omega))) (ev_var (i := 12) rfl rcol) ?_ fun F13 s13 => ⟨_, _, rfl, ?_⟩) (fun h => el_next fun F13 s13 => ⟨_, _, rfl, ?_⟩)
    · have h : ((bf S3.bs i : Nat) : Int) < (many : Int) := of_decide_eq_true h
      rw [Lp.wtN_len]
      omega
    · have h : ((bf S3.bs i : Nat) : Int) < (many : Int) := of_decide_eq_true h
      rw [Lp.wtN, if_pos (by omega)]
    · have h : ¬ ((bf S3.bs i : Nat) : Int) < (many : Int) := of_decide_eq_false h
      rw [Lp.wtN, if_neg (by omega)]
  obtain ⟨o11, o12, rfl, rfl⟩ := hp
  rw [enum_len, natI_len, b3]
  refine elr_thaw fun F13 s13 r_wts => ?_
  replace r_table1 := r_table1.mono s12
  replace r_basis1 := r_basis1.mono s12
  replace r_whole1 := r_whole1.mono s12
  replace r_rows1 := r_rows1.mono s12
  replace r_totals1 := r_totals1.mono s12
  replace r_gains1 := r_gains1.mono s12
  replace r_many1 := r_many1.mono s12
  replace r_count1 := r_count1.mono s12
  replace r_table1 := r_table1.mono s13
  replace r_basis1 := r_basis1.mono s13
  replace r_whole1 := r_whole1.mono s13
  replace r_rows1 := r_rows1.mono s13
  replace r_totals1 := r_totals1.mono s13
  replace r_gains1 := r_gains1.mono s13
  replace r_many1 := r_many1.mono s13
  replace r_count1 := r_count1.mono s13
  refine er_retD (evd_dT (ea_cons ev_str (ea_cons (ev_var (i := 9) rfl r_whole1) (ea_cons (ev_var (i := 10) rfl r_wts) (ea_cons (x := (List.range m).map fun k => entL S3.tb (m + 1) (many + k)) (Ev.cast (ev_slL (ev_nthL (ev_var (i := 5) rfl r_table1) (ev_i0 (ev_var (i := 4) rfl r_count1) ev_int) ?_) (eo_some (ev_var (i := 3) rfl r_many1)) (eo_some (ev_i0 (ev_var (i := 3) rfl r_many1) (ev_var (i := 4) rfl r_count1)))) ?_) ea_nil)))) (by show 4 ≤ sizeLine; decide)) ?_
  · have := t3.ix1 (show m + 1 < m + 2 by omega)
    omega
  · have hl : (S3.tb.getD (m + 1) []).length = many + m + 1 := t3.row (by omega)
    rw [show (m : Int) + 1 = ((m + 1 : Nat) : Int) by omega, nth_row, show (many : Int) + (m : Int) = ((many + m : Nat) : Int) by omega, cutL_mid _ _ (by omega)]
    apply List.ext_getElem?
    intro i
    rw [List.getElem?_take, List.getElem?_drop, List.getElem?_map]
    by_cases hi : i < m
    · rw [if_pos (by omega), List.getElem?_range hi, List.getElem?_eq_getElem (by omega)]
      show _ = some (entL S3.tb (m + 1) (many + i))
      unfold entL
      rw [List.getD_eq_getElem?_getD (l := S3.tb.getD (m + 1) []), List.getElem?_eq_getElem (by omega)]
      rfl
    · rw [if_neg (by omega), List.getElem?_eq_none (by simp; omega)]
      rfl
  · unfold Lp.solvedL
    rw [← hS1, if_neg (by rw [h]; exact fun z => z rfl), ← hS3]
    rfl

end
end Sp

set_option Elab.async false
set_option linter.all false
set_option maxRecDepth 100000
set_option maxHeartbeats 2000000
/-! a dict whose keys are tuples of ints: filled in a loop, then read -/
namespace Sp
open PySem PySem.Spec PyProof.Rows L2
open PySem.W (Datum DatumOrd Tup)
def keyK (x : Tup Int) : List Key := x.items.map Sum.inl
theorem keyK_kV (x : Tup Int) : (keyK x).map kV = x.items.map V.int := by
  unfold keyK
  rw [List.map_map]
  rfl
theorem keyK_inj {x y : Tup Int} (h : keyK x = keyK y) : x = y := by
  unfold keyK at h
  have : x.items = y.items := (List.map_inj_right fun a b e => Sum.inl.inj e).mp h
  cases x; cases y
  exact congrArg Tup.mk this
/-- what stands at a key -/
def dlook {γ : Type} (m : List (Tup Int × γ)) (x : Tup Int) : Option γ := (m.find? fun p => decide (p.1 = x)).map (·.2)
section
variable {K : PySem.W.Frag} {F F' : Hp} {D : Addr} {σ : L2.St} {ta tb te : TE} {tt tu : TT} {t u tw : TS} {α β γ δ : Type} [DecidableEq α] [Datum α] [DecidableEq β] [Datum β] [DecidableEq γ] [Datum γ] [DecidableEq δ] [Datum δ]
def KvsOf (K : PySem.W.Frag) (F : Hp) (kvs : List (List Key × V)) (m : List (Tup Int × γ)) : Prop := Paired (fun p q => p.1 = keyK q.1 ∧ Rp K F p.2 q.2) kvs m
theorem KvsOf.mono {kvs : List (List Key × V)} {m : List (Tup Int × γ)} (s : Same F F') (h : KvsOf K F kvs m) : KvsOf K F' kvs m := by
  unfold KvsOf at *
  induction h with
  | nil => exact .nil
  | cons h t ih => exact .cons ⟨h.1, h.2.mono s⟩ ih
theorem KvsOf.look {kvs : List (List Key × V)} {m : List (Tup Int × γ)} {x : Tup Int} {y : γ} (h : KvsOf K F kvs m) (e : dlook m x = some y) : ∃ v, valV kvs (keyK x) = some v ∧ Rp K F v y := by
  unfold KvsOf at h
  induction h with
  | nil => cases e
  | @cons p q ps qs h t ih =>
    unfold dlook at e ih
    unfold valV at ih ⊢
    rw [List.find?_cons] at e ⊢
    by_cases c : q.1 = x
    · rw [decide_eq_true c] at e
      rw [decide_eq_true (show p.1 = keyK x by rw [h.1, c])]
      have e : q.2 = y := by simpa using e
      exact ⟨p.2, rfl, e ▸ h.2⟩
    · rw [decide_eq_false c] at e
      rw [decide_eq_false (show ¬ p.1 = keyK x by rw [h.1]; exact fun z => c (keyK_inj z))]
      exact ih e
theorem KvsOf.length {kvs : List (List Key × V)} {m : List (Tup Int × γ)} (h : KvsOf K F kvs m) : kvs.length = m.length := Paired.length h
theorem KvsOf.snoc {kvs : List (List Key × V)} {m : List (Tup Int × γ)} {x : Tup Int} {y : γ} {v : V} (h : KvsOf K F kvs m) (r : Rp K F v y) : KvsOf K F (kvs ++ [(keyK x, v)]) (m ++ [(x, y)]) := by
  unfold KvsOf at *
  induction h with
  | nil => exact .cons ⟨rfl, r⟩ .nil
  | cons h t ih => exact .cons h ih
theorem KvsOf.put {kvs : List (List Key × V)} {m : List (Tup Int × γ)} {x : Tup Int} {v : V} (h : KvsOf K F kvs m) (hn : x ∉ m.map (·.1)) : putK kvs (keyK x) v = kvs ++ [(keyK x, v)] := by
  unfold putK
  refine if_neg fun c => hn ?_
  rw [List.any_eq_true] at c
  obtain ⟨p, hp, e⟩ := c
  have e : p.1 = keyK x := of_decide_eq_true e
  unfold KvsOf at h
  induction h with
  | nil => cases hp
  | @cons a b as bs h1 h2 ih =>
    rcases List.mem_cons.mp hp with rfl | hp
    · rw [List.map_cons]
      exact List.mem_cons.mpr (.inl (keyK_inj (e.symm.trans h1.1)))
    · rw [List.map_cons] at hn ⊢
      exact List.mem_cons.mpr (.inr (ih (fun z => hn (List.mem_cons.mpr (.inr z))) hp))
/-- v is the dict m -/
def RpD (K : PySem.W.Frag) (F : Hp) (v : V) (m : List (Tup Int × γ)) : Prop := ∃ d kvs, v = .ref d ∧ Rd F d (.dT kvs) ∧ KvsOf K F kvs m
theorem RpD.mono {v : V} {m : List (Tup Int × γ)} (s : Same F F') (h : RpD K F v m) : RpD K F' v m := by
  obtain ⟨d, kvs, e, r, k⟩ := h
  exact ⟨d, kvs, e, Evl.ex_rd s r, k.mono s⟩
/-- d[k], there -/
theorem ev_dget {i : Nat} {v : V} {m : List (Tup Int × γ)} {x : Tup Int} {y : γ} (hi : σ[i]? = some (some v)) (r : RpD K F v m) (hk : Ev K F tb σ x) (e : dlook m x = some y) : Ev K F (tDGet (tVar i) tb) σ y := fun c H a ok Q q =>
  ⟨v, hi, hk c H a ok _ fun w H1 s1 r1 => by
    obtain ⟨d, kvs, rfl, hd, hm⟩ := r.mono (a.trans s1.hid)
    obtain ⟨b, vs, rfl, hb, hr⟩ := rp_tupT r1
    obtain ⟨z, hz, rz⟩ := hm.look e
    refine ⟨d, z, rfl, .inr ⟨kvs, keyK x, b, rd_le hd, rfl, ?_, hz.symm⟩, q z H1 s1 rz⟩
    rw [keyK_kV, ← hr.ints]
    exact hid_le _ _ _ _ hb⟩
/-! ### a lock: all but the dict stands -/
def DSame (F F' : Hp) : Prop := ∀ b o, F b = some o → (∀ kvs, o ≠ .dT kvs) → (∀ od kvs, o ≠ .frz od (.dT kvs)) → F' b = some o
mutual
theorem dq_ds {H H' : Hp} (s : DSame H H') : ∀ (d : PyData) (v : V), Dq K H v d → Dq K H' v d
  | .none, _, h => by cases h; exact .non
  | .bool _, _, h => by cases h; exact .bl _
  | .int _, _, h => by cases h; exact .int _
  | .str _, _, h => by cases h; exact .str _
  | .list ds, _, h => by
    cases h with
    | lst hs ha =>
      refine .lst ?_ (dqa_ds s ds _ ha)
      rcases hs with hs | ⟨o, hs⟩
      · exact .inl (s _ _ hs (fun _ e => nomatch e) (fun _ _ e => nomatch e))
      · exact .inr ⟨o, s _ _ hs (fun _ e => nomatch e) (fun _ _ e => nomatch e)⟩
  | .tuple ds, _, h => by
    cases h with
    | tup hs ha => exact .tup (s _ _ hs (fun _ e => nomatch e) (fun _ _ e => nomatch e)) (dqa_ds s ds _ ha)
  | .dict _, _, h => by cases h
theorem dqa_ds {H H' : Hp} (s : DSame H H') : ∀ (ds : List PyData) (vs : List V), DqAll K H vs ds → DqAll K H' vs ds
  | [], _, h => by cases h; exact .nil
  | d :: ds, _, h => by
    cases h with
    | cons h1 h2 => exact .cons (dq_ds s d _ h1) (dqa_ds s ds _ h2)
end
theorem Rp.ds {v : V} {x : α} (s : DSame F F') (h : Rp K F v x) : Rp K F' v x := dq_ds s _ _ h
theorem KvsOf.ds {kvs : List (List Key × V)} {m : List (Tup Int × γ)} (s : DSame F F') (h : KvsOf K F kvs m) : KvsOf K F' kvs m := by
  unfold KvsOf at *
  induction h with
  | nil => exact .nil
  | cons h t ih => exact .cons ⟨h.1, h.2.ds s⟩ ih
theorem ds_lock {kvs : List (List Key × V)} {od : Obj} (hF : F D = some (.dT kvs)) : DSame F (upd F D (.frz od (.dT kvs))) := fun b o e n _ => by
  by_cases h : b = D
  · rw [h, hF] at e
    exact absurd (Option.some.inj e).symm (n kvs)
  · rw [upd_ne h]; exact e
theorem ev_lock {kvs : List (List Key × V)} {x : α} (hF : F D = some (.dT kvs)) (h : ∀ od, Ev K (upd F D (.frz od (.dT kvs))) te σ x) : Ev K F (tLockE te) σ x := fun c H a ok Q q => by
  have hc : hid c H D = some (.dT kvs) := a _ _ hF
  have hH : H D = some (.dT kvs) := hid_le c H _ _ hc
  have hcD : c D = false := by
    cases z : c D with
    | false => rfl
    | true => unfold hid at hc; rw [if_pos z] at hc; cases hc
  refine ⟨D, .dT kvs, hH, True.intro, fun od => ?_⟩
  refine h od c _ (fun b o e => ?_) (fun b hb => ?_) _ fun v H1 s1 r1 => ⟨s1 _ _ upd_same, q v _ (fun b o e => ?_) ?_⟩
  · by_cases z : b = D
    · rw [z, upd_same] at e
      rw [z, hid_at hcD, upd_same]
      exact e
    · rw [upd_ne z] at e
      have := a b o e
      unfold hid at this ⊢
      rw [upd_ne z]
      exact this
  · rw [upd_ne (fun z => by rw [z, hcD] at hb; cases hb)]
    exact ok b hb
  · by_cases z : b = D
    · rw [z, hH] at e
      rw [z, upd_same]
      exact e
    · rw [upd_ne z]
      exact s1 b o (by rw [upd_ne z]; exact e)
  · refine Rp.ds (fun b o e n1 n2 => ?_) r1
    have hl : hid c H1 D = some (.frz od (.dT kvs)) := by rw [hid_at hcD]; exact s1 _ _ upd_same
    have z : b ≠ D := fun z => by
      rw [z, hl] at e
      exact absurd (Option.some.inj e).symm (n2 od kvs)
    unfold hid at e ⊢
    rw [upd_ne z]
    exact e
theorem ei_keys {i : Nat} {kvs : List (List Key × V)} {od : Obj} {m : List (Tup Int × γ)} (hi : σ[i]? = some (some (.ref D))) (hF : F D = some (.frz od (.dT kvs))) (hm : KvsOf K F kvs m) (hl : m.length ≤ 100000) : EvI K F (iKeys (tVar i)) σ (m.map (·.1)) := fun c H a ok R q =>
  ⟨.ref D, hi, D, od, rfl, .inr ⟨kvs, hid_le c H _ _ (a _ _ hF), by
    refine q _ H (Same.refl _) (fun c2 H2 a2 ok2 => ?_) (by rw [List.length_map]; unfold sizeLine; omega)
    have h2 : H2 D = some (.frz od (.dT kvs)) := hid_le c2 H2 _ _ (a2 _ _ (a _ _ hF))
    have hlen := hm.length
    refine ⟨fun j hj => ⟨h2, by rw [List.length_map] at hj; omega⟩, ⟨h2, by rw [List.length_map]; omega⟩, fun j v H' x hx y => ?_⟩
    obtain ⟨rfl, k, w, b, hk, rfl, hb⟩ := y
    refine ⟨Same.refl _, ?_⟩
    rw [List.getElem?_map] at hx
    obtain ⟨p, hp, rfl⟩ := Option.map_eq_some_iff.mp hx
    have hk1 : k = keyK p.1 := by
      obtain ⟨q', hq', e, _⟩ := paired_get hm hk
      rw [hq'] at hp
      cases hp
      exact e
    have hc : c2 b = false := by
      cases z : c2 b with
      | false => rfl
      | true =>
        obtain ⟨o, e, n⟩ := ok2 b z
        rw [hb] at e
        exact absurd (Option.some.inj e).symm (n _)
    refine rp_mkT (vs := p.1.items.map V.int) ?_ rps_ints
    rw [hid_at hc, hb, hk1, keyK_kV]⟩⟩
/-- [e for k in d if c]: within, all that is known of data stands -/
theorem ev_lcD' {g : TG} {vs : List Nat} {i : Nat} {m : List (Tup Int × γ)} {v : V} {p : Tup Int → Bool} {f : Tup Int → β} (hi : σ[i]? = some (some v)) (r : ∃ d kvs, v = .ref d ∧ F d = some (.dT kvs) ∧ KvsOf K F kvs m) (hl : m.length ≤ 100000)
    (body : ∀ Fl, DSame F Fl → RpD K Fl v m → ∀ (F' : Hp) (w : V) (x : Tup Int), Same Fl F' → x ∈ m.map (·.1) → Rp K F' w x → ∃ σ2, EvG F' g w (wipe σ vs) σ2 ∧ wipe σ2 vs = wipe σ vs ∧ EvT F' tt σ2 (p x) ∧ (p x = true → Ev K F' te σ2 (f x))) :
    Ev K F (tLockE (tLc (iKeys (tVar i)) g tt te vs)) σ (((m.map (·.1)).filter p).map f) := by
  obtain ⟨d, kvs, rfl, hF, hm⟩ := r
  refine ev_lock hF fun od => ?_
  have ds := ds_lock (od := od) hF
  exact ev_lc (ei_keys hi upd_same (hm.ds ds) hl) (body _ ds ⟨d, kvs, rfl, .inr ⟨od, upd_same⟩, hm.ds ds⟩)
/-! ### filling -/
def CellD (K : PySem.W.Frag) (c : Addr → Bool) (H : Hp) (D : Addr) (m : List (Tup Int × γ)) : Prop := c D = true ∧ ∃ kvs, H D = some (.dT kvs) ∧ KvsOf K (hid c H) kvs m
theorem CellD.same {c : Addr → Bool} {H H' : Hp} {m : List (Tup Int × γ)} (s : Same H H') (h : CellD K c H D m) : CellD K c H' D m := by
  obtain ⟨a, kvs, e, r⟩ := h
  exact ⟨a, kvs, s _ _ e, r.mono s.hid⟩
theorem CellD.thaw {c : Addr → Bool} {H : Hp} {m : List (Tup Int × γ)} (h : CellD K c H D m) : ∃ d kvs, V.ref D = .ref d ∧ hid (less1 c D) H d = some (.dT kvs) ∧ KvsOf K (hid (less1 c D) H) kvs m := by
  obtain ⟨a, kvs, e, r⟩ := h
  exact ⟨D, kvs, rfl, by rw [hid_at less1_self]; exact e, r.mono hid_less1⟩
def EvQ (K : PySem.W.Frag) (F : Hp) (D : Addr) (t : TS) (σ : L2.St) (m : List (Tup Int × γ)) (N : Hp → L2.St → List (Tup Int × γ) → Prop) : Prop := ∀ c H, Same F (hid c H) → Okc c H → CellD K c H D m → ∀ DD : Ends,
  (∀ σ' H' m', Sx D H H' → CellD K c H' D m' → N (hid c H') σ' m' → DD.nx σ' H') → t DD σ H
variable {m : List (Tup Int × γ)} {N : Hp → L2.St → List (Tup Int × γ) → Prop}
theorem eq_next (h : ∀ F', Same F F' → N F' σ m) : EvQ K F D tNext σ m N := fun c H a ok cl DD q => q σ H m .refl cl (h _ a)
theorem eq_seq {M : Hp → L2.St → List (Tup Int × γ) → Prop} (h : EvQ K F D t σ m M) (k : ∀ F' σ' m', Same F F' → M F' σ' m' → EvQ K F' D u σ' m' N) : EvQ K F D (tSeq t u) σ m N := fun c H a ok cl DD q =>
  h c H a ok cl { DD with nx := u DD } fun σ' H1 m1 s1 c1 n1 => k (hid c H1) σ' m1 (a.trans (s1.hid cl.1)) n1 c H1 (Same.refl _) (s1.okc ok) c1 DD fun σ2 H2 m2 s2 c2 n => q σ2 H2 m2 (s1.trans s2) c2 n
theorem eq_set {x : β} {i : Nat} (h : Ev K F te σ x) (k : ∀ F' v, Same F F' → Rp K F' v x → EvQ K F' D u (σ.set i (some v)) m N) : EvQ K F D (tSeq (tAsg te (gName i)) u) σ m N := fun c H a ok cl DD q =>
  h c H a ok _ fun v H1 s1 r1 => k (hid c H1) v (a.trans s1.hid) r1 c H1 (Same.refl _) (ok.mono s1) (cl.same s1) DD fun w H2 m2 s2 c2 n => q w H2 m2 ((Sx.of s1).trans s2) c2 n
/-- a test that may read the dict -/
theorem eq_if {b : Bool} {s1 s2 : TS} (h : ∀ F', Same F F' → RpD K F' (.ref D) m → EvT F' tt σ b) (k1 : b = true → EvQ K F D s1 σ m N) (k2 : b = false → EvQ K F D s2 σ m N) : EvQ K F D (tIfS tt s1 s2) σ m N := fun c H a ok cl DD q => by
  obtain ⟨d, kvs, e, hd, hm⟩ := cl.thaw
  refine h _ (same_less1 a) ⟨d, kvs, e, .inl hd, hm⟩ (less1 c D) H (Same.refl _) (okc_less1 ok) _ fun H1 t1 => ?_
  have cl1 := cl.same t1
  cases b with
  | true => exact k1 rfl c H1 (a.trans t1.hid) (ok.mono t1) cl1 DD fun w H2 m2 t2 c2 r2 => q w H2 m2 ((Sx.of t1).trans t2) c2 r2
  | false => exact k2 rfl c H1 (a.trans t1.hid) (ok.mono t1) cl1 DD fun w H2 m2 t2 c2 r2 => q w H2 m2 ((Sx.of t1).trans t2) c2 r2
/-- d[k] = e, a new key -/
theorem eq_put {i : Nat} {x : Tup Int} {y : γ} (hi : σ[i]? = some (some (.ref D))) (hk : Ev K F tb σ x) (h : Ev K F te σ y) (hn : x ∉ m.map (·.1)) (hl : m.length < sizeLine) (n : ∀ F', Same F F' → N F' σ (m ++ [(x, y)])) : EvQ K F D (sDPut (tVar i) tb te) σ m N := fun c H a ok cl DD q => by
  obtain ⟨cD, kvs, e, r⟩ := cl
  refine h c H a ok _ fun w H1 s1 r1 => ⟨.ref D, hi, ?_⟩
  refine hk c H1 (a.trans s1.hid) (ok.mono s1) _ fun z H2 s2 r2 => ?_
  obtain ⟨b, vs, rfl, hb, hr⟩ := rp_tupT r2
  have hu : Same (hid c H2) (hid c (upd H2 D (.dT (kvs ++ [(keyK x, w)])))) := hid_upd cD
  have e2 : H2 D = some (.dT kvs) := s2 _ _ (s1 _ _ e)
  have hlen := r.length
  refine ⟨D, upd H2 D (.dT (kvs ++ [(keyK x, w)])), rfl, .inr ⟨kvs, keyK x, b, e2, rfl, ?_, by omega, by rw [r.put hn]⟩, ?_⟩
  · rw [keyK_kV, ← hr.ints]
    exact hid_le _ _ _ _ hb
  · exact q σ _ _ ((Sx.of (s1.trans s2)).trans .upd) ⟨cD, _, upd_same, ((r.mono (s1.trans s2).hid).snoc (r1.mono s2.hid)).mono hu⟩ (n _ (a.trans ((s1.trans s2).hid.trans hu)))
theorem eq_for {wi : TI} {g : TG} {tb : TS} {ys : List β} (hi : EvI K F wi σ ys) (Pv : Nat → Hp → L2.St → List (Tup Int × γ) → Prop) (mono : ∀ i F1 F2 σ xs, Same F1 F2 → Pv i F1 σ xs → Pv i F2 σ xs) (h0 : Pv 0 F σ m)
    (step : ∀ (i : Nat) (F' : Hp) (v : V) (y : β) (σ' : L2.St) (m' : List (Tup Int × γ)), Same F F' → ys[i]? = some y → Rp K F' v y → Pv i F' σ' m' → ∃ σ2, EvG F' g v σ' σ2 ∧ EvQ K F' D tb σ2 m' (Pv (i + 1))) :
    EvQ K F D (tFor wi g tb) σ m (Pv ys.length) := fun c H a ok cl DD q =>
  hi c H a ok _ fun J H1 s1 j1 hz => by
    have ok1 := ok.mono s1
    refine ⟨fun i n σ' H2 => n = ys.length - i ∧ i ≤ ys.length ∧ Sx D H1 H2 ∧ ∃ zs, CellD K c H2 D zs ∧ Pv i (hid c H2) σ' zs, ⟨ys.length, by simp, Nat.zero_le _, .refl, m, cl.same s1, mono 0 _ _ _ _ (a.trans s1.hid) h0⟩, ?_⟩
    rintro i n σ' H2 ⟨rfl, hil, s2, zs, c2, p⟩
    have ok2 := s2.okc ok1
    have s2h := s2.hid cl.1
    obtain ⟨jg, js, jy⟩ := j1 c H2 s2h ok2
    by_cases hlt : i < ys.length
    · have hx : ys[i]? = some ys[i] := List.getElem?_eq_getElem hlt
      refine .inr ⟨jg i hlt, fun σ3 H3 => Sx D H1 H3 ∧ ∃ zs, CellD K c H3 D zs ∧ Pv (i + 1) (hid c H3) σ3 zs, fun σ3 H3 h => ⟨ys.length - (i + 1), by omega, rfl, by omega, h⟩, fun v H3 y => ?_⟩
      obtain ⟨s3, r3⟩ := jy i v H3 _ hx y
      have s03 := (a.trans s1.hid).trans (s2h.trans s3.hid)
      obtain ⟨σ2, eg, en⟩ := step i (hid c H3) v _ σ' zs s03 hx r3 (mono i _ _ _ _ s3.hid p)
      exact eg c H3 (Same.refl _) (ok2.mono s3) _ (en c H3 (Same.refl _) (ok2.mono s3) (c2.same s3) _ fun σ4 H4 ws s4 c4 n => ⟨(s2.trans (.of s3)).trans s4, ws, c4, n⟩)
    · have e : i = ys.length := by omega
      subst e
      exact .inl ⟨js, q σ' H2 zs ((Sx.of s1).trans s2) c2 p⟩
/-- d = {} and a block that fills it -/
theorem erb_dict {tin : Addr} {n : Nat} {i : Nat} {P : PyData → Prop} (N : Addr → Hp → L2.St → List (Tup Int × γ) → Prop) (h : ∀ D F', Same F F' → EvQ K F' D t (σ.set i (some (.ref D))) [] (N D))
    (k : ∀ D F1 F2 σ1 m, Same F F2 → Same F1 F2 → N D F1 σ1 m → (∃ d kvs, V.ref D = .ref d ∧ F2 d = some (.dT kvs) ∧ KvsOf K F2 kvs m) → EvRB K F2 tin n u σ1 P) : EvRB K F tin n (tSeq (tAsg tDNewT (gName i)) (tSeq t u)) σ P := fun c H j a ok ct b DD q => fun D hD => by
  have hc := ok.new hD
  have s0 : Same H (upd H D (.dT [])) := same_new hD
  have hDt : D ≠ tin := fun e => by rw [e, ct] at hc; cases hc
  have ok1 : Okc (more c D) (upd H D (.dT [])) := okc_more (ok.mono s0) ⟨_, upd_same, fun _ z => nomatch z⟩
  refine h D _ (a.trans (hid_more hD s0)) (more c D) _ (Same.refl _) ok1 ⟨more_self, [], upd_same, .nil⟩ { DD with nx := u DD } fun σ1 H2 m2 s2 c2 n2 => ?_
  have th := c2.thaw
  rw [less_more hc] at th
  have sx : Sx tin H H2 := ⟨fun x o hx e => by
    have hxD : x ≠ D := fun z => by rw [z, hD] at e; cases e
    exact s2.1 x o hxD (s0 x o e), fun x hx => s2.2.1 x ((Sx.of (tin := D) s0).2.1 x hx), fun x hx => s2.2.2 x ((Sx.of (tin := D) s0).2.2 x hx)⟩
  have hb2 : BoxAt H2 tin (j + n) := by
    obtain ⟨x, y, z, e, bo⟩ := b
    exact ⟨x, y, z, s2.1 tin _ (Ne.symm hDt) (s0 _ _ e), bo⟩
  have ss : Same (hid c H) (hid c H2) := fun x o e => by
    have hx : H x = some o := hid_le c H _ _ e
    have hxD : x ≠ D := fun z => by rw [z, hD] at hx; cases hx
    have hcx : c x = false := by
      cases z : c x with
      | false => rfl
      | true => unfold hid at e; rw [if_pos z] at e; cases e
    rw [hid_at hcx]
    exact s2.1 x o hxD (s0 x o hx)
  refine k D _ (hid c H2) σ1 m2 (a.trans ss) ?_ n2 th c H2 j (Same.refl _) (sx.okc ok) ct hb2 DD fun v H3 d pd s3 b3 r3 => q v H3 d pd (sx.trans s3) b3 r3
  exact hid_less
end
/-! ### sorted(d) -/
section
variable {K : PySem.W.Frag} {F F' : Hp} {D : Addr} {σ : L2.St} {γ : Type} [DecidableEq γ] [Datum γ]
def rSortDT : List V → Hp → VK → Prop := fun xs H Q => ∃ (d : Addr) (kvs : List (List Key × V)) (ks : List (Tup Int)), xs = [V.ref d] ∧ Rd H d (.dT kvs) ∧ kvs.map (·.1) = ks.map keyK ∧ (∀ k ∈ ks, k.items ≠ []) ∧
  ∀ p bs, H p = none → Paired (fun (b : Addr) (x : Tup Int) => H b = some (.tup (x.items.map V.int))) bs (ks.mergeSort fun a b => !DatumOrd.lt b a) → Q (.ref p) (upd H p (.lst (bs.map V.ref)))
theorem reads_ints {h : Heap} : ∀ {ns : List Int} {us : List Value}, IntsAre us ns → PySem.ReadsAll h us (ns.map PyData.int) []
  | _, _, .nil => .nil
  | _, _, .cons n t H => .cons (as := []) (.int n t) (reads_ints H)
theorem each_keys {H : Hp} : ∀ {kvs : List (List Key × V)} {xs : List (List Key × Addr × Value)} {ks : List (Tup Int)}, Paired (fun (p : List Key × V) (q : List Key × Addr × Value) => p.1 = q.1 ∧ H q.2.1 = some (.tup (p.1.map kV)) ∧ RelV p.2 q.2.2) kvs xs → kvs.map (·.1) = ks.map keyK →
    PySem.W.EachIs (fun (u : Value) (x : Tup Int) => ∃ b, u = .ref b ∧ H b = some (.tup (x.items.map V.int))) (xs.map fun x => Value.ref x.2.1) ks
  | _, _, [], .nil, _ => .nil
  | _, _, _ :: _, .nil, e => by cases e
  | _, _, [], .cons _ _, e => by cases e
  | _, _, k :: ks, .cons h t, e => by
    rw [List.map_cons, List.map_cons] at e
    injection e with e1 e2
    refine .cons ⟨_, rfl, ?_⟩ (each_keys t e2)
    rw [h.2.1, e1, keyK_kV]
theorem reads_row {X : Cx} {pins : List (Addr × Obj)} {σ : L2.St} {H : Hp} {s : Shared} (I : Inv X pins σ H s) {b : Addr} {ns : List Int} (e : H b = some (.tup (ns.map V.int))) : PySem.Reads s.heap (.ref b) (.tuple (ns.map PyData.int)) [] := by
  obtain ⟨_, its, rv, o, h1, h2, n, h3⟩ := (show ObjOk X.prog X.w H s.heap b (.tup (ns.map V.int)) from I.hok b _ e)
  exact .tuple h1 h2 h3 (reads_ints (by simpa using rv.ints))
theorem cr_sortDT {X : Cx} (hc : X.calm = true) (hu : X.A.units + 64 < cLine) : CallR X (.builtin "sorted") rSortDT := by
  intro pins s σ H xs us Q I r h
  obtain ⟨d, kvs, ks, rfl, hd, hks, hne, q⟩ := h
  obtain ⟨u, rfl, rx⟩ := r.one
  cases rx
  obtain ⟨z, hs, xs, pr, o, es, ep, ho, hx, hdt, he, hn⟩ := (show ObjOk X.prog X.w H s.heap d (.dT kvs) from hd.ok I.hok)
  have l1 : es.size = xs.length := size_of_entries he
  have l2 : kvs.length = xs.length := Paired.length pr
  have l3 : kvs.length = ks.length := by
    have e := congrArg List.length hks
    rw [List.length_map, List.length_map] at e
    exact e
  refine Calls.call_function_entry PyProof.Rows.kind_sorted PyProof.Rows.plain_sorted PyProof.Rows.entry_sorted (PyProof.Rows.args_sorted1 _) ?_
  unfold Builtin.«sorted»
  refine wpAny_bind (m := checkCount "sorted" 1 1 _) (wpAny_pure ?_)
  refine wpAny_bind (PySem.W.kdu_collect (A := X.A.in1) (kdl_raw hs hx hdt) (I.ok.hd hc) ho (by omega) fun h' tk acc hk it => ?_)
  have ea : acc.toList = xs.map fun x => Value.ref x.2.1 := by
    have hl : acc.toList.length = xs.length := by rw [Array.length_toList, it.1]; exact l1
    apply List.ext_getElem?
    intro j
    rw [List.getElem?_map]
    cases hj : acc.toList[j]? with
    | none =>
      have h1 := List.getElem?_eq_none_iff.mp hj
      rw [List.getElem?_eq_none (by omega)]
      all_goals rfl
    | some v =>
      obtain ⟨en, hen, hv⟩ := it.2 j v (by rw [← Array.getElem?_toList]; exact hj)
      have qe := entry_at he j
      rw [hen] at qe
      cases hb : xs[j]? with
      | none =>
        rw [hb] at qe
        exact nomatch (show some en = none from qe)
      | some b =>
        rw [hb] at qe
        have e2 : en = entryOfKey (tupleKind (mixKind X.prog X.w)) b := Option.some.inj qe
        rw [hv, e2]
        all_goals rfl
  have I1 : Inv X pins σ H { s with heap := h', toks := tk } := I.kept hk
  have eR : PySem.W.EachIs (fun (u : Value) (x : Tup Int) => ∃ b, u = .ref b ∧ H b = some (.tup (x.items.map V.int))) acc.toList ks := by
    rw [ea]
    exact each_keys pr hks
  refine wpAny_bind (wpAny_newList ?_ (by rw [ea, List.length_map]; omega))
  have hoL : (h'.push (seqObj "list" acc.toList.toArray 0)).get? h'.objs.size = some (seqObj "list" acc.toList.toArray 0) := Heap.get?_push_size _ rfl
  show wpAny _ _ _ _ _ { s with heap := h'.push (seqObj "list" acc.toList.toArray 0), toks := tk }
  refine wpAny_bind (wpAny_holding (PySem.W.list_sort_data (enc := Datum.toD (α := Tup Int)) (bs := ks) (s := { s with heap := h'.push (seqObj "list" acc.toList.toArray 0), toks := tk }) hoL eR (eR.mono fun u x hu => ⟨[], ?gR, List.not_mem_nil⟩) (PySem.W.AllAlike.of fun b b' => DatumOrd.alike b b') ?gK (by omega) (fun b hb => ?gU) fun out hol eo => ?gQ))
  case gR =>
    obtain ⟨b, rfl, e2⟩ := hu
    exact PyProof.Rows.Reads.keeps (fun _ _ => Heap.get?_push_of_some _) (reads_row I1 e2)
  case gK =>
    refine .inl fun dd hdd => ?_
    obtain ⟨x, hx, rfl⟩ := List.mem_map.mp hdd
    cases e : x.items with
    | nil => exact absurd e (hne x hx)
    | cons a r => exact ⟨_, _, by show PyData.tuple (x.items.map Datum.toD) = _; rw [e]; rfl⟩
  case gU =>
    have hdp := Datum.depth_le b
    have hd1 : Datum.depth (Tup Int) = 1 := rfl
    have hu1 : X.A.in1.units = X.A.units + 1 := rfl
    omega
  case gQ =>
    rw [dataLe_datum] at eo
    obtain ⟨e', he'⟩ := PyProof.Rows.sortedHeap_at (vs := acc.toList) (out := out.toArray) hoL
    have hbs : ∃ bs : List Addr, out = bs.map Value.ref ∧ Paired (fun (b : Addr) (x : Tup Int) => H b = some (.tup (x.items.map V.int))) bs (ks.mergeSort fun a b => !DatumOrd.lt b a) := by
      clear he' hol q
      generalize (ks.mergeSort fun a b => !DatumOrd.lt b a) = zs at eo
      induction eo with
      | nil => exact ⟨[], rfl, .nil⟩
      | cons h t ih =>
        obtain ⟨b, rfl, hb⟩ := h
        obtain ⟨bs, rfl, hp⟩ := ih
        exact ⟨b :: bs, rfl, .cons hb hp⟩
    obtain ⟨bs, rfl, hp⟩ := hbs
    have hlen : (bs.map V.ref).length ≤ sizeLine := by
      rw [List.length_map] at hol ⊢
      omega
    refine wpAny_pure ⟨_, rfl, .ref h'.objs.size, upd H h'.objs.size (.lst (bs.map V.ref)), I1.laid (t' := tk) (fun b u e => ?_) (Nat.le_refl _)
      (show ObjOk X.prog X.w _ _ _ (.lst (bs.map V.ref)) from ⟨hlen, _, e', vals_refs bs, he'⟩), rfl, q _ bs (I1.hok.fresh (Nat.le_refl _)) hp⟩
    have hb : b < h'.objs.size := Heap.lt_size e
    rw [PyProof.Rows.sortedHeap_old (Nat.ne_of_lt hb) (by rw [size_push']; exact Nat.lt_succ_of_lt hb)]
    exact Heap.get?_push_of_some _ e
theorem paired_rows_tup {K : PySem.W.Frag} {H : Hp} {c : Addr → Bool} (ok : Okc c H) : ∀ {bs : List Addr} {xs : List (Tup Int)}, Paired (fun (b : Addr) (x : Tup Int) => H b = some (.tup (x.items.map V.int))) bs xs → Rps K (hid c H) (bs.map V.ref) xs
  | _, _, .nil => Rps.nil
  | _, _, .cons (a := b) h t => Rps.cons (rp_mkT (vs := _) (by
      have hc : c b = false := by
        cases z : c b with
        | false => rfl
        | true =>
          obtain ⟨o, e, n⟩ := ok b z
          rw [h] at e
          exact absurd (Option.some.inj e).symm (n _)
      rw [hid_at hc]
      exact h) rps_ints) (paired_rows_tup ok t)
/-- sorted(d) -/
theorem ev_sortD {K : PySem.W.Frag} {F : Hp} {σ : L2.St} {γ : Type} [DecidableEq γ] [Datum γ] {i : Nat} {v : V} {m : List (Tup Int × γ)} (hi : σ[i]? = some (some v)) (r : RpD K F v m) (hne : ∀ k ∈ m.map (·.1), k.items ≠ []) : Ev K F (tCB rSortDT (tCons (tVar i) tNil)) σ ((m.map (·.1)).mergeSort fun a b => !DatumOrd.lt b a) := fun c H a ok Q q => by
  obtain ⟨d, kvs, rfl, hd, hm⟩ := r.mono a
  refine ⟨.ref d, hi, d, kvs, m.map (·.1), rfl, rd_le hd, ?_, hne, fun p bs hp hb => ?_⟩
  · unfold KvsOf at hm
    clear r hne hd q
    induction hm with
    | nil => rfl
    | cons h t ih => rw [List.map_cons, List.map_cons, List.map_cons, ih, h.1]
  · exact q _ _ (same_new hp) (rp_mkL (.inl (hid_new (ok.new hp))) ((paired_rows_tup ok hb).mono (same_new hp).hid))
end
end Sp

set_option Elab.async false
set_option linter.all false
set_option maxRecDepth 100000
set_option maxHeartbeats 3200000
namespace Sp
open PySem PySem.Spec PyProof.Rows L2
open PySem.W (Datum DatumOrd Tup listLt)
/-! ### set(xs) of a list of ints -/
section
variable {P : Program} {w : World} {A : Around} {E : Value → Shared → Prop} {s : Shared}
theorem call_set_lstI {l : Addr} {items : Array Value} (ns : List Int) {Q : Value → Shared → Prop} (hh : A.handled = none) (hl : s.heap.IsList l items) (hit : IntsAre items.toList ns) (hb : ns.length + 1 < scanBound)
    (h : ∀ (h' : Heap) (tk c : Nat), SetR w h' s.heap.objs.size (fun j => decide (j ∈ ns)) c → c ≤ ns.length → (∀ b o, s.heap.get? b = some o → h'.get? b = some o) → Q (.ref s.heap.objs.size) { s with heap := h', toks := tk }) :
    wpAny (model P w) A (call (.type "set") [.ref l]) Q E s := by
  have hisz : items.size = ns.length := by
    have q := IntsAre.length hit
    rw [Array.length_toList] at q
    exact q
  obtain ⟨c, tl, hmro⟩ := F.called_set.mro
  have hmade := F.called_set.made
  have hsub := F.called_set.sub
  refine wpAny_call (codeAny_of_tree ?_)
  show wpAny _ _ (callAny (.type "set") _) _ _ _
  refine wpAny_pure ⟨Code.quiet_builtin _ (by decide +kernel), codeAny_builtin F.entry_type_call ?_⟩
  rw [Around.under_plain (weight_type_call_type "set" [.ref l] []) rfl]
  have h1 := F.called_set.notType
  have h2 := F.called_set.canCreate
  have hct := F.typeCall_set_1 (.ref l)
  repeat (any_goals (first | assumption | wp_step))
  refine codeAny_mono (code_set_led1 (.ref l) (E := E) (Q₁ := fun obj s₁ => obj = .ref s.heap.objs.size ∧ s₁ = { s with heap := s.heap.push { cls := .type "set", dict := none, data := .set #[] 0 (.fresh 0 0 (!w.params.followText "set-order")) } }) ⟨rfl, rfl⟩) fun r s₁ hr => ?_
  cases r with
  | error e => exact hr
  | ok fl =>
    cases fl with
    | ret obj =>
      obtain ⟨rfl, rfl⟩ := hr
      have hS : (s.heap.push { cls := .type "set", dict := none, data := .set #[] 0 (.fresh 0 0 (!w.params.followText "set-order")) }).get? s.heap.objs.size = some { cls := .type "set", dict := none, data := .set #[] 0 (.fresh 0 0 (!w.params.followText "set-order")) } := Heap.get?_push_size _ rfl
      have hT : Shared.TypeIs { s with heap := s.heap.push { cls := .type "set", dict := none, data := .set #[] 0 (.fresh 0 0 (!w.params.followText "set-order")) } } (.ref s.heap.objs.size) "set" := ⟨_, hS, rfl⟩
      have hli := F.called_set.init.lookup
      have hbi := F.called_set.init.bind (.ref s.heap.objs.size)
      repeat (any_goals (first | assumption | wp_step))
      refine codeAny_mono (codeAny_call_builtin (R := wants (fun r s₂ => r = .none ∧ ∃ h' tk c, s₂ = { s with heap := h', toks := tk } ∧ SetR w h' s.heap.objs.size (fun j => decide (j ∈ ns)) c ∧ c ≤ ns.length ∧
          (∀ b o, s.heap.get? b = some o → h'.get? b = some o)) E) F.called_set.init.plain F.entry_set_init (check_set_init_1 hT ?_)) fun r₂ s₂ hr₂ => ?_
      · obtain ⟨⟨ocls, odict, odata, oslots⟩, hol, hcl, nl, hdl⟩ := hl
        simp only at hcl hdl
        subst hcl hdl
        have hol' := Heap.get?_push_of_some { cls := .type "set", dict := none, data := .set #[] 0 (.fresh 0 0 (!w.params.followText "set-order")) } hol
        have hsls := F.sub_list_set
        have hslf := F.sub_list_frozenset
        have hne : (Value.type "list" == Value.type "dict") = false := by decide
        have hl1 : (s.heap.push { cls := .type "set", dict := none, data := .set #[] 0 (.fresh 0 0 (!w.params.followText "set-order")) }).IsList l items := ⟨_, hol', rfl, nl, rfl⟩
        unfold Builtin.«set.__init__» noKeywords Builtin.Frozenset.updateFrom
        generalize hPI : pyIter = PI
        wp_walk
        subst hPI
        refine wpAny_pyIter_list hl1 ?_
        refine wpAny_bind (wpAny_runValue ?_)
        have hlS : l < s.heap.objs.size := Heap.lt_size hol
        have hh3 : A.in1.in1.in1.handled = none := by simp [hh]
        have hneI : l ≠ (s.heap.push { cls := .type "set", dict := none, data := .set #[] 0 (.fresh 0 0 (!w.params.followText "set-order")) }).objs.size := by
          rw [Heap.size_push]; exact Nat.ne_of_lt (Nat.lt_succ_of_lt hlS)
        have hSf : s.heap.objs.size ∉ [(s.heap.push { cls := .type "set", dict := none, data := .set #[] 0 (.fresh 0 0 (!w.params.followText "set-order")) }).objs.size, l] := by
          rw [Heap.size_push]; simp only [List.mem_cons, List.mem_singleton, List.not_mem_nil, or_false, not_or]
          exact ⟨Nat.ne_of_lt (Nat.lt_succ_self _), Nat.ne_of_gt hlS⟩
        have hval : ∀ (i : Nat) (v : Value), items[i]? = some v → ∃ k t, ns[i]? = some k ∧ v = .int k t := fun i v hv => by
          have hi : i < ns.length := by rw [← hisz]; exact (Array.getElem?_eq_some_iff.mp hv).1
          obtain ⟨t, e⟩ := PyProof.Rows.IntsAre.int_at hit i v (by rw [Array.getElem?_toList]; exact hv)
          refine ⟨ns[i], t, List.getElem?_eq_getElem hi, ?_⟩
          rw [e, List.getD_eq_getElem?_getD, List.getElem?_eq_getElem hi] <;> rfl
        refine set_update_ints ((Walks.list hh3 _ l hneI items).toS) s.heap.objs.size
          hSf ns hisz hb hval (items.size - 0) 0 _ (by omega) (Nat.zero_le _)
          ⟨⟨_, Heap.get?_push_size _ rfl, rfl, rfl⟩, (hl1.push _)⟩ ⟨0, Nat.le_refl 0, setR_new_at (Heap.get?_push_of_some _ hS)⟩ ?_
        intro s' c' hm hc' hS'
        obtain ⟨h', g2, d', tk', os'⟩ := s'
        have eg : g2 = s.gens := hm.gens
        have ed : d' = s.drawn := hm.drawn
        have eo : os' = s.os := hm.os
        subst eg; subst ed; subst eo
        show wpAny _ _ _ _ _ _
        refine wpAny_pure ?_
        show wpAny _ _ (ret Value.none) _ _ _
        rw [hisz] at hc'
        refine wpAny_pure ⟨rfl, h', tk', c', rfl, hS', hc', fun b o e => ?_⟩
        have hb0 : b < s.heap.objs.size := Heap.lt_size e
        exact hm.heap b o (by
          rw [Heap.size_push]
          simp only [List.mem_cons, List.mem_singleton, List.not_mem_nil, or_false, not_or]
          exact ⟨Nat.ne_of_lt hb0, Nat.ne_of_lt (Nat.lt_succ_of_lt hb0)⟩) (Heap.get?_push_of_some _ (Heap.get?_push_of_some _ e))
      · cases r₂ with
        | error e => exact hr₂
        | ok fl₂ =>
          cases fl₂ with
          | ret r =>
            obtain ⟨rfl, h', tk, c', rfl, hS', hc', hk'⟩ := hr₂
            repeat (any_goals (first | assumption | wp_step))
            exact h _ _ _ hS' hc' hk'
          | _ => exact hr₂.elim
    | _ => exact hr.elim
end
def rSetOfI (K : PySem.W.Frag) (w : World) : List V → Hp → VK → Prop := fun xs H Q => ∃ (l : Addr) (ns : List Int), xs = [V.ref l] ∧ SqL K H l (ns.map V.int) ∧ ns.length < 64 ∧
  ∀ a c, H a = none → c ≤ ns.length → Q (.ref a) (upd H a (SetO w a (fun j => decide (j ∈ ns)) c))
theorem cr_setOfI {X : Cx} (hc : X.calm = true) : CallR X (.type "set") (rSetOfI X.K X.w) := by
  intro pins s σ H xs us Q I r h
  obtain ⟨l, ns, rfl, hl, hf, q⟩ := h
  rw [Vals.ref1 r]
  obtain ⟨its, rv, pl, hz⟩ := I.list hl
  have hn : H s.heap.objs.size = none := I.hok.fresh (Nat.le_refl _)
  refine call_set_lstI (P := X.prog) (w := X.w) ns (I.ok.hd hc) pl.isList (by simpa using rv.ints) (by
    have : 65 < scanBound := by decide
    omega) fun h' tk c R hc' k => ?_
  exact ⟨.ref s.heap.objs.size, upd H s.heap.objs.size (SetO X.w s.heap.objs.size (fun j => decide (j ∈ ns)) c), I.laid (t' := tk) k (Nat.le_refl _) (setO_new R), rfl, q _ c hn hc'⟩
def rSetOf2 (K : PySem.W.Frag) (P : Program) (w : World) : List V → Hp → VK → Prop := fun xs H Q => rSetOfT K P w xs H Q ∨ rSetOfI K w xs H Q
def rSorted2 (K : PySem.W.Frag) (P : Program) (w : World) : List V → Hp → VK → Prop := fun xs H Q => rSortedT K P w xs H Q ∨ rSortedSet w xs H Q
theorem cr_setOf2 {X : Cx} (hc : X.calm = true) (hu : X.A.units + 64 < cLine) : CallR X (.type "set") (rSetOf2 X.K X.prog X.w) := (cr_setOfT hc hu).or (cr_setOfI hc)
theorem cr_sorted2 {X : Cx} (hc : X.calm = true) : CallR X (.builtin "sorted") (rSorted2 X.K X.prog X.w) := (cr_sortedT hc).or (cr_sortedSet hc)
/-! ### the ascending list of what is in xs -/
def insI (x : Int) : List Int → List Int
  | [] => [x]
  | y :: ys => if x < y then x :: y :: ys else if x = y then y :: ys else y :: insI x ys
def isetV (xs : List Int) : List Int := xs.foldr insI []
theorem mem_insI {x z : Int} : ∀ {ys : List Int}, z ∈ insI x ys ↔ z = x ∨ z ∈ ys
  | [] => by simp [insI]
  | y :: ys => by
    rw [insI]
    split
    · simp
    · split
      · rename_i e
        subst e
        simp
      · rw [List.mem_cons, mem_insI, List.mem_cons]
        constructor
        · rintro (h | h | h)
          · exact .inr (.inl h)
          · exact .inl h
          · exact .inr (.inr h)
        · rintro (h | h | h)
          · exact .inr (.inl h)
          · exact .inl h
          · exact .inr (.inr h)
theorem asc_insI {x : Int} : ∀ {ys : List Int}, ys.Pairwise (· < ·) → (insI x ys).Pairwise (· < ·)
  | [], _ => List.pairwise_singleton _ _
  | y :: ys, h => by
    rw [insI]
    rw [List.pairwise_cons] at h
    split
    · rename_i hx
      refine List.pairwise_cons.mpr ⟨fun z hz => ?_, List.pairwise_cons.mpr h⟩
      rcases List.mem_cons.mp hz with rfl | hz
      · exact hx
      · have := h.1 z hz
        omega
    · split
      · exact List.pairwise_cons.mpr h
      · refine List.pairwise_cons.mpr ⟨fun z hz => ?_, asc_insI h.2⟩
        rcases mem_insI.mp hz with rfl | hz
        · omega
        · exact h.1 z hz
theorem mem_iset {z : Int} : ∀ {xs : List Int}, z ∈ isetV xs ↔ z ∈ xs
  | [] => Iff.rfl
  | x :: xs => by
    show z ∈ insI x (isetV xs) ↔ _
    rw [mem_insI, mem_iset, List.mem_cons]
theorem asc_iset : ∀ xs : List Int, (isetV xs).Pairwise (· < ·)
  | [] => .nil
  | x :: xs => asc_insI (asc_iset xs)
theorem iset_len : ∀ xs : List Int, (isetV xs).length ≤ xs.length
  | [] => Nat.le_refl _
  | x :: xs => by
    have hi : ∀ (x : Int) (ys : List Int), (insI x ys).length ≤ ys.length + 1 := fun x ys => by
      induction ys with
      | nil => exact Nat.le_refl _
      | cons y ys ih =>
        rw [insI]
        split
        · simp
        · split
          · simp
          · simp only [List.length_cons]
            omega
    have h1 := hi x (isetV xs)
    have h2 := iset_len xs
    show (insI x (isetV xs)).length ≤ _
    simp only [List.length_cons]
    omega
theorem asc_uniqueI {xs ys : List Int} (h1 : xs.Pairwise (· < ·)) (h2 : ys.Pairwise (· < ·)) (h : ∀ z, z ∈ xs ↔ z ∈ ys) : xs = ys := by
  have n1 : xs.Nodup := h1.imp fun h e => by omega
  have n2 : ys.Nodup := h2.imp fun h e => by omega
  exact List.Perm.eq_of_pairwise (le := (· < ·)) (fun a b _ _ h1 h2 => by omega) h1 h2 ((List.perm_ext_iff_of_nodup n1 n2).mpr h)
section
variable {K : PySem.W.Frag} {F F' : Hp} {σ : L2.St} {ta tb te : TE} {P : Program} {w : World}
abbrev tSset2 (K : PySem.W.Frag) (P : Program) (w : World) (te : TE) : TE := tCB (rSorted2 K P w) (tCons (tCB (rSetOf2 K P w) (tCons te tNil)) tNil)
theorem ev_sset2 {xs : List (Tup Int)} {d : Nat} {B : Int} (ha : Ev K F ta σ xs) (hlen : xs.length < 64) (hd : 1 ≤ d) (hb : ∀ x ∈ xs, x.items.length = d ∧ TS.Bd B x.items) : Ev K F (tSset2 K P w ta) σ (sset xs) := fun c H a ok Q q =>
  ha c H a ok _ fun v H1 s1 r1 => by
    have h : rSetOfT K P w [v] H1 fun x H2 => rSortedT K P w [x] H2 Q := ev_sset (P := P) (w := w) (σ := σ) (ev_val r1) hlen hd hb c H1 (Same.refl _) (ok.mono s1) Q fun y H2 s2 r2 => q y H2 (s1.trans s2) r2
    obtain ⟨l, ks, e1, e2, e3, e4, k⟩ := h
    exact .inl ⟨l, ks, e1, e2, e3, e4, fun a L h1 h2 h3 => .inl (k a L h1 h2 h3)⟩
theorem ev_iset {xs : List Int} (ha : Ev K F ta σ xs) (hlen : xs.length < 64) : Ev K F (tSset2 K P w ta) σ (isetV xs) := fun c H a ok Q q =>
  ha c H a ok _ fun v H1 s1 r1 => by
    obtain ⟨b, vs, rfl, hs, hr⟩ := rp_lst r1
    have e := hr.ints
    subst e
    have ok1 := ok.mono s1
    refine .inr ⟨b, xs, rfl, .inl (rd_le hs), hlen, fun a n na hn => ?_⟩
    have s2 : Same H1 (upd H1 a (SetO w a (fun j => decide (j ∈ xs)) n)) := same_new na
    refine .inr ⟨a, _, n, rfl, upd_same .., by omega, fun ns p pw mem hl np => ?_⟩
    have s3 : Same (upd H1 a (SetO w a (fun j => decide (j ∈ xs)) n)) (upd (upd H1 a (SetO w a (fun j => decide (j ∈ xs)) n)) p (.lst (ns.map V.int))) := same_new np
    have e4 : ns = isetV xs := asc_uniqueI pw (asc_iset xs) fun z => by rw [mem, mem_iset, decide_eq_true_eq]
    refine q _ _ (s1.trans (s2.trans s3)) ?_
    rw [← e4]
    exact rp_mkL (.inl (hid_new ((ok1.mono s2).new np))) rps_ints
end
end Sp

set_option Elab.async false
set_option linter.all false
set_option maxRecDepth 100000
set_option maxHeartbeats 4000000
namespace Sp
open PySem PySem.Spec PyProof.Rows L2
open PySem.W (Datum DatumOrd Tup)


abbrev R_law_dot := R2' (fun (a b : Row) => Bits a ∧ a.items.length = b.items.length) dot
def planV (bits many : Int) : Row := Tup.mk ((rangeL 0 many).map fun k => Builtin.bitAnd (bits / 2 ^ (many - 1 - k).toNat) 1)
abbrev R_law_plan := R2' (fun (b m : Int) => 0 ≤ m ∧ m ≤ 63) planV
def everyV (many : Int) : List Row := (rangeL 0 (1 * 2 ^ many.toNat)).map fun k => planV k many
abbrev R_law_every := R1 (fun m : Int => 0 ≤ m ∧ m ≤ 20) everyV
def farV (one two : Row) : List Int := (((rangeL 0 one.items.length).zip one.items).filter fun q => decide (q.2 ≠ nth two.items q.1)).map Prod.fst
abbrev R_law_far := R2' (fun (a b : Row) => a.items.length = b.items.length) farV
def turnV (p : Row) (ks : List Int) : Row := Tup.mk (((rangeL 0 p.items.length).zip p.items).map fun q => if decide (q.1 ∈ ks) = true then 1 - q.2 else q.2)
abbrev R_law_turn := R2' (fun (_ : Row) (_ : List Int) => True) turnV
abbrev R_law_turnT := R2' (fun (_ : Row) (_ : Tup Int) => True) (fun p ks => turnV p ks.items)
def topsV (l : Lot) (r : Row) : Lot := bestV l r
abbrev R_law_tops := R2' (fun (l : Lot) (r : Row) => l.items ≠ [] ∧ ∀ p ∈ l.items, Bits p ∧ p.items.length = r.items.length) bestV
abbrev R_law_most := R2' (fun (l : Lot) (r : Row) => l.items ≠ [] ∧ ∀ p ∈ l.items, Bits p ∧ p.items.length = r.items.length) mostV
def lessV (a b : Int × Int) : Bool := decide (a.1 * b.2 < b.1 * a.2)
abbrev R_law_less := R2' (fun (a b : Int × Int) => (0 ≤ a.2 ∧ a.2 < 2 ^ 30) ∧ 0 ≤ b.2 ∧ b.2 < 2 ^ 30) lessV
def lawSharedV (hs : Hs) : Lot := Tup.mk ((nth hs.items 0).items.filter fun p => decide (((hs.items.filter fun l => decide (p ∉ l.items)).map fun _ => (1 : Int)) = []))
abbrev R_law_shared := R1 (fun hs : Hs => hs.items ≠ []) lawSharedV
def movedV {α : Type} [Inhabited α] (r : Tup α) (o : Tup Int) : Tup α := Tup.mk (o.items.map fun k => nth r.items k)

section
variable {P : Program} {w : World} {K : PySem.W.Frag} {mg : Str → Option Value} {base : Heap}
theorem sc_law_plan : FnScope ["bits_so", "many_so", "k"] ["bits_so", "many_so"] (defScope (top 59)) := ⟨rfl, rfl, rfl, by decide +kernel, rfl, by decide +kernel, by decide +kernel⟩
theorem c__law_plan (B : Bn mg) (D : DefIn K mg "_law_plan" (top 59)) : C8.Cal P w K mg base 1 "_law_plan" (SpG K R_law_plan) [] := by
  refine cal_pure (R := R_law_plan) D sc_law_plan (fun _ _ _ _ _ _ us hl => match us, hl with | [_, _], _ => rfl) (by
    rintro ds r ⟨_, _, rfl, _⟩; rfl) fun f cdv A outer s H E hr => ⟨_, (pss_one (ps_ret (pe_callTy (cr_tupleX : CallR _ _ (rTupleX K)) (by rfl) B.tuple PyProof.Rows.boot_tuple (pa_cons (pe_lc rfl sc_law_plan.nd (pi_range1 (by rfl) B.range (pa_cons (pv 1) pa_nil)) (blkOk_by (own := [("k", 2)]) (by kernel_rfl)) (fun _ _ _ _ _ => (pg_name (i := 2) sc_law_plan.nd rfl (by first | exact Or.inl rfl | exact Or.inr rfl))) (fun _ _ _ _ _ => pts_nil) (fun _ _ _ _ _ => (pe_op op_and (pe_op op_shr (pv 0) (pe_op op_sub (pe_op op_sub (pv 1) pe_int) (pv 2))) pe_int))) pa_nil)))), ?_⟩
  rintro F vs ds r ⟨bits_so, many_so, rfl, hp, rfl⟩ hv
  obtain ⟨v_bits_so, v_many_so, rfl, r_bits_so, r_many_so⟩ := dq2 hv
  replace r_bits_so : Rp K F v_bits_so bits_so := r_bits_so
  replace r_many_so : Rp K F v_many_so many_so := r_many_so
  refine (er_retE (ev_tupL (ev_lc1 (ei_rng1 (ev_var (i := 1) rfl r_many_so) ?_ ?_) (fun F1 v1 x1 s1 hx1 r1 => lcb_name ⟨rfl, (ev_i0 (ev_i (ev_var (i := 0) rfl (r_bits_so.mono s1)) (ev_i0 (ev_i0 (ev_var (i := 1) rfl (r_many_so.mono s1)) ev_int) (ev_var (i := 2) rfl r1)) ?_) ev_int)⟩))) ?_)
  -- range up: range(many_so)
  -- range low: range(many_so)
  -- RShift: bits_so >> many_so - 1 - k
  -- return tuple([bits_so >> many_so - 1 - k & 1 for k in range(many_so)])
  · omega
  · omega
  · have := mem_rangeL hx1
    show 0 ≤ _
    omega
  · rfl

theorem sc_law_every : FnScope ["many_so", "k"] ["many_so"] (defScope (top 60)) := ⟨rfl, rfl, rfl, by decide +kernel, rfl, by decide +kernel, by decide +kernel⟩
theorem c__law_every (B : Bn mg) (D : DefIn K mg "_law_every" (top 60)) (c__law_plan : C8.Cal P w K mg base 1 "_law_plan" (SpG K R_law_plan) []) : C8.Cal P w K mg base 2 "_law_every" (SpG K R_law_every) [] := by
  refine cal_pure (R := R_law_every) D sc_law_every (fun _ _ _ _ _ _ us hl => match us, hl with | [_], _ => rfl) (by
    rintro ds r ⟨_, rfl, _⟩; rfl) fun f cdv A outer s H E hr => ⟨_, (pss_one (ps_ret (pe_lc rfl sc_law_every.nd (pi_range1 (by rfl) B.range (pa_cons (pe_op op_shl pe_int (pv 0)) pa_nil)) (blkOk_by (own := [("k", 1)]) (by kernel_rfl)) (fun _ _ _ _ _ => (pg_name (i := 1) sc_law_every.nd rfl (by first | exact Or.inl rfl | exact Or.inr rfl))) (fun _ _ _ _ _ => pts_nil) (fun _ _ _ _ _ => (C8.pe_c c__law_plan hr (by decide) (by rfl) (pa_cons (pv 1) (pa_cons (pv 0) pa_nil))))))), ?_⟩
  rintro F vs ds r ⟨many_so, rfl, hp, rfl⟩ hv
  obtain ⟨v_many_so, rfl, r_many_so⟩ := dq1 hv
  replace r_many_so : Rp K F v_many_so many_so := r_many_so
  refine (er_retE (ev_lc1 (ei_rng1 (ev_i ev_int (ev_var (i := 0) rfl r_many_so) ?_) ?_ ?_) (fun F1 v1 x1 s1 hx1 r1 => lcb_name ⟨rfl, (ev_call (ea_cons (ev_var (i := 1) rfl r1) (ea_cons (ev_var (i := 0) rfl (r_many_so.mono s1)) ea_nil)) (r2_mk ?_))⟩)) ?_)
  -- LShift: 1 << many_so
  -- range up: range(1 << many_so)
  -- range low: range(1 << many_so)
  -- pre of _law_plan(k, many_so)
  -- return [_law_plan(k, many_so) for k in range(1 << many_so)]
  · exact ⟨hp.1, by omega, by decide⟩
  · have h : (2 : Int) ^ many_so.toNat ≤ 2 ^ 20 := by
      have : (2 : Nat) ^ many_so.toNat ≤ 2 ^ 20 := Nat.pow_le_pow_right (by decide) (by omega)
      exact_mod_cast this
    omega
  · have h : (0 : Int) < 2 ^ many_so.toNat := Int.pow_pos (by decide)
    omega
  · omega
  · rfl

abbrev R_law_turn2 : List PyData → PyData → Prop := fun ds r => R_law_turn ds r ∨ R_law_turnT ds r
theorem sc_law_turn : FnScope ["plan_so", "places_so", "k", "bit_so"] ["plan_so", "places_so"] (defScope (top 61)) := ⟨rfl, rfl, rfl, by decide +kernel, rfl, by decide +kernel, by decide +kernel⟩
theorem c__law_turn (B : Bn mg) (D : DefIn K mg "_law_turn" (top 61)) : C8.Cal P w K mg base 1 "_law_turn" (SpG K R_law_turn2) [] := by
  refine cal_pure (R := R_law_turn2) D sc_law_turn (fun _ _ _ _ _ _ us hl => match us, hl with | [_, _], _ => rfl) (by
    rintro ds r (⟨_, _, rfl, _⟩ | ⟨_, _, rfl, _⟩) <;> rfl) fun f cdv A outer s H E hr => ⟨_, (pss_one (ps_ret (pe_callTy (cr_tupleX : CallR _ _ (rTupleX K)) (by rfl) B.tuple PyProof.Rows.boot_tuple (pa_cons (pe_lc rfl sc_law_turn.nd (pi_enumX (by rfl) B.enumerate (pa_cons (pv 0) pa_nil) : PI _ _ _ (iEnumX K _)) (blkOk_by (own := [("k", 2), ("bit_so", 3)]) (by kernel_rfl)) (fun _ _ _ _ _ => (pg_tup (n := 2) rfl (pgs_cons (pg_name (i := 2) sc_law_turn.nd rfl (by first | exact Or.inl rfl | exact Or.inr rfl)) (pgs_cons (pg_name (i := 3) sc_law_turn.nd rfl (by first | exact Or.inl rfl | exact Or.inr rfl)) pgs_nil)) : PG _ _ (gTup K 2 _))) (fun _ _ _ _ _ => pts_nil) (fun _ _ _ _ _ => (pe_ifExp (pt_cmpR (op_inX hr.units : OpR _ _ (rInX K false)) (pv 2) (pv 1) (by rfl)) (pe_op op_sub pe_int (pv 3)) (pv 3)))) pa_nil)))), ?_⟩
  intro F vs ds r h hv
  rcases h with ⟨plan_so, places_so, rfl, hp, rfl⟩ | ⟨plan_so, places_so, rfl, hp, rfl⟩
  · obtain ⟨v_plan_so, v_places_so, rfl, r_plan_so, r_places_so⟩ := dq2 hv
    replace r_plan_so : Rp K F v_plan_so plan_so := r_plan_so
    replace r_places_so : Rp K F v_places_so places_so := r_places_so
    refine (er_retE (ev_tupL (ev_lc1 (ei_enumT (ev_var (i := 0) rfl r_plan_so)) (fun F1 v1 x1 s1 hx1 r1 => lcb_two r1 fun u1 w1 ru1 rw1 => ⟨rfl, (ev_if (et_test (ev_inL (ev_var (i := 2) rfl ru1) (ev_var (i := 1) rfl (r_places_so.mono s1)))) (fun h2 => (ev_i0 ev_int (ev_var (i := 3) rfl rw1))) (fun h2 => (ev_var (i := 3) rfl rw1)))⟩))) ?_)
    rfl
  · obtain ⟨v_plan_so, v_places_so, rfl, r_plan_so, r_places_so⟩ := dq2 hv
    replace r_plan_so : Rp K F v_plan_so plan_so := r_plan_so
    replace r_places_so : Rp K F v_places_so places_so := r_places_so
    refine (er_retE (ev_tupL (ev_lc1 (ei_enumT (ev_var (i := 0) rfl r_plan_so)) (fun F1 v1 x1 s1 hx1 r1 => lcb_two r1 fun u1 w1 ru1 rw1 => ⟨rfl, (ev_if (et_test (ev_inT (ev_var (i := 2) rfl ru1) (ev_var (i := 1) rfl (r_places_so.mono s1)))) (fun h2 => (ev_i0 ev_int (ev_var (i := 3) rfl rw1))) (fun h2 => (ev_var (i := 3) rfl rw1)))⟩))) ?_)
    rfl

theorem fold_sset {xs : List (Tup Int)} : sset xs = xs.foldr insS [] := rfl
def SetOk (xs : List Row) : Prop := xs.length < 64 ∧ ∃ d B, 1 ≤ d ∧ ∀ x ∈ xs, x.items.length = d ∧ TS.Bd B x.items
abbrev R_law_setR := R1 SetOk (fun xs => Tup.mk (sset xs))
abbrev R_law_setI := R1 (fun xs : List Int => xs.length < 64) (fun xs => Tup.mk (isetV xs))
def R_law_set : List PyData → PyData → Prop := fun ds r => R_law_setR ds r ∨ R_law_setI ds r
theorem sc_law_set : FnScope ["goods_so"] ["goods_so"] (defScope (top 58)) := ⟨rfl, rfl, rfl, by decide +kernel, rfl, by decide +kernel, by decide +kernel⟩
theorem c__law_set (B : Bn mg) (D : DefIn K mg "_law_set" (top 58)) : C8.Cal P w K mg base 1 "_law_set" (SpG K R_law_set) [] := by
  refine cal_pure (R := R_law_set) D sc_law_set (fun _ _ _ _ _ _ us hl => match us, hl with | [_], _ => rfl) (by
    rintro ds r (⟨_, rfl, _⟩ | ⟨_, rfl, _⟩) <;> rfl) fun f cdv A outer s H E hr => ⟨_, (pss_one (ps_ret (pe_callTy (cr_tupleX : CallR _ _ (rTupleX K)) (by rfl) B.tuple PyProof.Rows.boot_tuple (pa_cons (pe_callB (cr_sorted2 rfl : CallR _ _ (rSorted2 K P w)) (by rfl) B.sorted PyProof.Rows.boot_sorted (pa_cons (pe_callTy (cr_setOf2 rfl hr.units : CallR _ _ (rSetOf2 K P w)) (by rfl) B.set PyProof.Rows.boot_set (pa_cons (pv 0) pa_nil)) pa_nil)) pa_nil)))), ?_⟩
  rintro F vs ds r h hv
  rcases h with ⟨xs, rfl, hp, rfl⟩ | ⟨xs, rfl, hp, rfl⟩
  · obtain ⟨v_goods, rfl, r_goods⟩ := dq1 hv
    replace r_goods : Rp K F v_goods xs := r_goods
    obtain ⟨hl, dd, bb, hd, hb⟩ := hp
    refine (er_retE (ev_tupL (ev_sset2 (d := dd) (B := bb) (ev_var (i := 0) rfl r_goods) ?_ ?_ ?_)) ?_)
    · exact hl
    · exact hd
    · exact hb
    · rfl
  · obtain ⟨v_goods, rfl, r_goods⟩ := dq1 hv
    replace r_goods : Rp K F v_goods xs := r_goods
    refine (er_retE (ev_tupL (ev_iset (ev_var (i := 0) rfl r_goods) ?_)) ?_)
    · exact hp
    · rfl

def lawPromV (hs : Hs) (sp : Spl) : Int × Int := frac ((hs.items.zip sp.2.items).map fun q => mostV q.1 q.2).sum sp.1
abbrev R_law_frac := R2' (fun (_ b : Int) => 0 < b ∧ b < 2 ^ 30) frac
abbrev R_law_promise := R2' (fun (hs : Hs) (sp : Spl) => ∃ n, GHs n hs ∧ GSp n hs sp) promV
theorem gz_step {x y : Int} (hx : 0 ≤ x) (hy : 0 < y) : gz y (x.fmod y) = gz x y := by
  rw [Int.fmod_eq_emod_of_nonneg _ (by omega)]
  unfold gz
  have e : (x % y).natAbs = x.natAbs % y.natAbs := by
    obtain ⟨a, rfl⟩ := Int.eq_ofNat_of_zero_le hx
    obtain ⟨b, rfl⟩ := Int.eq_ofNat_of_zero_le (Int.le_of_lt hy)
    exact (congrArg Int.natAbs (Int.natCast_emod a b).symm).trans (Int.natAbs_natCast _)
  rw [e, Nat.gcd_comm x.natAbs y.natAbs, Nat.gcd_rec y.natAbs x.natAbs, Nat.gcd_comm]
abbrev R_law_flat := R1 (fun rows : List (List Int) => rows.flatten.length ≤ 1000) (fun rows => rows.flatten)
theorem flat_take {rows : List (List Int)} {i : Nat} {r : List Int} (h : rows[i]? = some r) : (rows.take (i + 1)).flatten = (rows.take i).flatten ++ r := by
  rw [List.take_add_one, h, List.flatten_append]
  simp
theorem flat_take_le {rows : List (List Int)} (i : Nat) : (rows.take i).flatten.length ≤ rows.flatten.length := by
  have : rows.flatten = (rows.take i).flatten ++ (rows.drop i).flatten := by rw [← List.flatten_append, List.take_append_drop]
  rw [this, List.length_append]
  omega
theorem size1000 {n : Nat} (h : n ≤ 1000) : n ≤ sizeLine := Nat.le_trans h (by decide)
abbrev R_law_lowest := R2' (fun (b : Int) (rows : List (List Int)) => (1 ≤ b ∧ b < 2 ^ 30) ∧ rows.flatten.length ≤ 1000) lowV
theorem gz_comm (a b : Int) : gz a b = gz b a := by unfold gz; rw [Nat.gcd_comm]
theorem gz_dvd {x b : Int} (h : 1 ≤ b) : b.fdiv (frac x b).2 = gz b x := by
  have h1 := gz_bd (x := x) h
  rw [gz_comm b x] at h1 ⊢
  unfold frac
  show b.fdiv (b.fdiv (gz x b)) = gz x b
  have hd : gz x b ∣ b := by
    unfold gz
    exact Int.natAbs_dvd_natAbs.mp (by simpa using Nat.gcd_dvd_right x.natAbs b.natAbs)
  obtain ⟨k, hk⟩ := hd
  have e : b.fdiv (gz x b) = k := by
    rw [Int.fdiv_eq_ediv_of_nonneg _ (by omega)]
    exact Int.ediv_eq_of_eq_mul_right (by omega) hk
  have hk1 : 0 < k := by
    rcases Int.lt_trichotomy k 0 with z | z | z
    · have := Int.mul_neg_of_pos_of_neg (show 0 < gz x b by omega) z
      omega
    · rw [z, Int.mul_zero] at hk
      omega
    · exact z
  rw [e, Int.fdiv_eq_ediv_of_nonneg _ (by omega)]
  exact Int.ediv_eq_of_eq_mul_left (by omega) hk
theorem frac2_pos {x b : Int} (h : 1 ≤ b) (h2 : b < 2 ^ 30) : 1 ≤ (frac x b).2 ∧ (frac x b).2 < 2 ^ 30 := by
  have h1 := gz_bd (x := x) h
  rw [gz_comm] at h1
  show 1 ≤ b.fdiv (gz x b) ∧ b.fdiv (gz x b) < 2 ^ 30
  rw [Int.fdiv_eq_ediv_of_nonneg _ (by omega)]
  have a1 : 1 ≤ b / gz x b := Int.le_ediv_of_mul_le (by omega) (by omega)
  have a2 : b / gz x b ≤ b := Int.ediv_le_self _ (by omega)
  omega
def OrdOk (n : Nat) (o : Tup Int) : Prop := ∀ k ∈ o.items, 0 ≤ k ∧ k < (n : Int)
def R_law_moved : List PyData → PyData → Prop := fun ds r => (∃ (a : Hs) (o : Tup Int), ds = [Datum.toD a, Datum.toD o] ∧ OrdOk a.items.length o ∧ r = Datum.toD (movedV a o)) ∨ ∃ (a : Lot) (o : Tup Int), ds = [Datum.toD a, Datum.toD o] ∧ OrdOk a.items.length o ∧ r = Datum.toD (movedV a o)
abbrev R_law_box_by := R2' (fun (p : Row) (ps : Tup (Tup Int)) => Bits p ∧ 1 ≤ p.items.length ∧ ps.items.length ≤ 5) (fun p ps => Tup.mk (sset (ps.items.foldl (fun f k => f ++ f.map fun q => turnV q k.items) [p])))
theorem turn_len (p : Row) (ks : List Int) : (turnV p ks).items.length = p.items.length := by
  unfold turnV
  rw [List.length_map, List.length_zip, rangeL_len]
  simp
theorem turn_bits {p : Row} (h : Bits p) (ks : List Int) : Bits (turnV p ks) := fun x hx => by
  obtain ⟨q, hq, rfl⟩ := List.mem_map.mp hx
  have := h _ (mem_zip hq).2
  split <;> omega
theorem bits_bd {p : Row} (h : Bits p) : TS.Bd 2 p.items := fun x hx => by
  have := h x hx
  omega
def boxF (p : Row) (ps : List (Tup Int)) : List Row := ps.foldl (fun f k => f ++ f.map fun q => turnV q k.items) [p]
theorem box_ok {p : Row} (hp : Bits p) : ∀ (ps : List (Tup Int)) (f : List Row), (∀ q ∈ f, Bits q ∧ q.items.length = p.items.length) →
    (∀ q ∈ ps.foldl (fun f k => f ++ f.map fun q => turnV q k.items) f, Bits q ∧ q.items.length = p.items.length) ∧ (ps.foldl (fun f k => f ++ f.map fun q => turnV q k.items) f).length = f.length * 2 ^ ps.length
  | [], f, h => ⟨h, by simp⟩
  | k :: ps, f, h => by
    rw [List.foldl_cons]
    have h2 : ∀ q ∈ f ++ f.map fun q => turnV q k.items, Bits q ∧ q.items.length = p.items.length := fun q hq => by
      rcases List.mem_append.mp hq with hq | hq
      · exact h q hq
      · obtain ⟨q0, hq0, rfl⟩ := List.mem_map.mp hq
        exact ⟨turn_bits (h q0 hq0).1 _, by rw [turn_len, (h q0 hq0).2]⟩
    obtain ⟨a, b⟩ := box_ok hp ps _ h2
    refine ⟨a, ?_⟩
    rw [b, List.length_append, List.length_map, List.length_cons, Nat.pow_succ]
    have : f.length + f.length = f.length * 2 := by omega
    rw [this, Nat.mul_assoc, Nat.mul_comm 2]
theorem sc_law_box_by : FnScope ["plan_so", "parts_so", "found", "own", "its"] ["plan_so", "parts_so"] (defScope (top 62)) := ⟨rfl, rfl, rfl, by decide +kernel, rfl, by decide +kernel, by decide +kernel⟩
theorem c__law_box_by (B : Bn mg) (D : DefIn K mg "_law_box_by" (top 62)) (c__law_turn : C8.Cal P w K mg base 1 "_law_turn" (SpG K R_law_turn2) []) : C8.Cal P w K mg base 2 "_law_box_by" (SpG K R_law_box_by) [] := by
  refine cal_pure (R := R_law_box_by) D sc_law_box_by (fun _ _ _ _ _ _ us hl => match us, hl with | [_, _], _ => rfl) (by
    rintro ds r ⟨_, _, rfl, _⟩; rfl) fun f cdv A outer s H E hr => ⟨_, (pss_cons (ps_set (i := 2) sc_law_box_by.nd rfl (by first | exact Or.inl rfl | exact Or.inr rfl) (pe_lst (pa_cons (pv 0) pa_nil)))
    (pss_cons (ps_for PassesOwn.never rfl (pi_seqX (pv 1) : PI _ _ _ (iSeqX K _)) (pg_name (i := 3) sc_law_box_by.nd rfl (by first | exact Or.inl rfl | exact Or.inr rfl)) (pss_one (ps_set (i := 2) sc_law_box_by.nd rfl (by first | exact Or.inl rfl | exact Or.inr rfl) (pe_op op_catL (pv 2) (pe_lc rfl sc_law_box_by.nd (pi_seqX (pv 2) : PI _ _ _ (iSeqX K _)) (blkOk_by (own := [("its", 4)]) (by kernel_rfl)) (fun _ _ _ _ _ => (pg_name (i := 4) sc_law_box_by.nd rfl (by first | exact Or.inl rfl | exact Or.inr rfl))) (fun _ _ _ _ _ => pts_nil) (fun _ _ _ _ _ => (C8.pe_c c__law_turn hr (by decide) (by rfl) (pa_cons (pv 4) (pa_cons (pv 3) pa_nil)))))))))
    (pss_one (ps_ret (pe_callTy (cr_tupleX : CallR _ _ (rTupleX K)) (by rfl) B.tuple PyProof.Rows.boot_tuple (pa_cons (pe_callB (cr_sortedT rfl : CallR _ _ (rSortedT K P w)) (by rfl) B.sorted PyProof.Rows.boot_sorted (pa_cons (pe_callTy (cr_setOfT rfl hr.units : CallR _ _ (rSetOfT K P w)) (by rfl) B.set PyProof.Rows.boot_set (pa_cons (pv 2) pa_nil)) pa_nil)) pa_nil)))))), ?_⟩
  rintro F vs ds r ⟨plan_so, parts_so, rfl, hp, rfl⟩ hv
  obtain ⟨v_plan_so, v_parts_so, rfl, r_plan_so, r_parts_so⟩ := dq2 hv
  replace r_plan_so : Rp K F v_plan_so plan_so := r_plan_so
  replace r_parts_so : Rp K F v_parts_so parts_so := r_parts_so
  obtain ⟨hb, hn, hk⟩ := hp
  have h0 : ∀ q ∈ [plan_so], Bits q ∧ q.items.length = plan_so.items.length := fun q hq => by
    have e : q = plan_so := by simpa using hq
    rw [e]
    exact ⟨hb, rfl⟩
  have hpow : ∀ k, k ≤ 5 → 2 ^ k ≤ 32 := fun k h => Nat.pow_le_pow_right (by decide) h
  refine er_set (ev_dL (es_cons (ev_var (i := 0) rfl r_plan_so) es_nil)) fun F1 v1 s1 r1 => er_for (xs := parts_so.items) (ei_tup (ev_var (i := 1) rfl (r_parts_so.mono s1))) (fun i F' σ' => ∃ v w o, σ' = [some v_plan_so, some v_parts_so, some v, w, o] ∧ Rp K F' v (boxF plan_so (parts_so.items.take i))) (fun i F1 F2 σ' s h => ?_) ⟨v1, none, none, rfl, by simpa [boxF] using r1⟩ (fun i F2 v x σ' s hx r h => ?_) (fun F2 σ' s2 h => ?_)
  · obtain ⟨v, w, o, rfl, r⟩ := h
    exact ⟨v, w, o, rfl, r.mono s⟩
  · obtain ⟨v2, w, o, rfl, r2⟩ := h
    have hi := (List.getElem?_eq_some_iff.mp hx).1
    have hl : (boxF plan_so (parts_so.items.take i)).length ≤ 32 := by
      unfold boxF
      rw [(box_ok hb _ _ h0).2, List.length_take]
      have := hpow (min i parts_so.items.length) (by omega)
      simpa using this
    refine lcb_name (en_set (ev_catL (ev_var (i := 2) rfl r2) (ev_lc1 (ei_list (ev_var (i := 2) rfl r2)) fun F3 v3 x3 s3 hx3 r3 => lcb_name ⟨rfl, ev_call (ea_cons (ev_var (i := 4) rfl r3) (ea_cons (ev_var (i := 3) rfl (r.mono s3)) ea_nil)) (.inr (r2_mk True.intro))⟩) ?_) fun F3 v3 s3 r3 => ⟨v3, some v, o, rfl, ?_⟩)
    · rw [List.length_map]
      exact size1000 (by omega)
    · rw [List.take_add_one, hx]
      unfold boxF at r3 ⊢
      rw [List.foldl_append]
      exact r3
  · obtain ⟨v2, w, o, rfl, r2⟩ := h
    rw [List.take_length] at r2
    obtain ⟨hq, hl⟩ := box_ok hb parts_so.items _ h0
    refine er_retE (ev_tupL (ev_sset (d := plan_so.items.length) (B := 2) (ev_var (i := 2) rfl r2) ?_ hn fun q hq' => ⟨(hq q hq').2, bits_bd (hq q hq').1⟩)) rfl
    show (boxF plan_so parts_so.items).length < 64
    unfold boxF
    rw [hl]
    have := hpow parts_so.items.length hk
    simp
    omega

end
end Sp

set_option Elab.async false
set_option linter.all false
set_option maxRecDepth 100000
set_option maxHeartbeats 4000000
namespace Sp
open PySem PySem.Spec PyProof.Rows L2
open PySem.W (Datum DatumOrd Tup)


mutual
/-- tuples made lists, all the way down -/
def lstD : PyData → PyData
  | .list xs => .list (lstDA xs)
  | .tuple xs => .list (lstDA xs)
  | d => d
def lstDA : List PyData → List PyData
  | [] => []
  | d :: ds => lstD d :: lstDA ds
end
theorem lstDA_map : ∀ xs : List PyData, lstDA xs = xs.map lstD
  | [] => by rw [lstDA]; rfl
  | d :: ds => by rw [lstDA, lstDA_map ds]; rfl
mutual
theorem tup_lst : ∀ d : PyData, tupD (lstD d) = tupD d
  | .list xs => by rw [lstD, tupD, tupD, tup_lstA xs]
  | .tuple xs => by rw [lstD, tupD, tupD, tup_lstA xs]
  | .none => rfl
  | .bool _ => rfl
  | .int _ => rfl
  | .str _ => rfl
  | .dict _ => rfl
theorem tup_lstA : ∀ ds : List PyData, tupDA (lstDA ds) = tupDA ds
  | [] => by rw [lstDA]
  | d :: ds => by rw [lstDA, tupDA, tupDA, tup_lst d, tup_lstA ds]
end
mutual
theorem dpt_lst : ∀ d : PyData, dpt (lstD d) = dpt d
  | .list xs => by rw [lstD, dpt, dpt, dpt_lstA xs]
  | .tuple xs => by rw [lstD, dpt, dpt, dpt_lstA xs]
  | .none => rfl
  | .bool _ => rfl
  | .int _ => rfl
  | .str _ => rfl
  | .dict _ => rfl
theorem dpt_lstA : ∀ ds : List PyData, dptA (lstDA ds) = dptA ds
  | [] => by rw [lstDA]
  | d :: ds => by rw [lstDA, dptA, dptA, dpt_lst d, dpt_lstA ds]
end
def R_law_lists (k : Nat) : List PyData → PyData → Prop := fun ds r => ∃ d, ds = [d] ∧ dpt d ≤ k ∧ r = lstD d
theorem R_law_lists_mk {d : PyData} (h : dpt d ≤ 4) : R_law_lists 4 [d] (lstD d) := ⟨d, rfl, h, rfl⟩
def R_law_same (k : Nat) : List PyData → PyData → Prop := fun ds r => ∃ d, ds = [d, d] ∧ dpt d ≤ k ∧ r = .bool true
abbrev R_law_box := R2' (fun (xs : List Int) (k : Int) => xs ≠ [] ∧ k = 0) (fun xs k => [(if nth xs 0 < 0 then -nth xs 0 else nth xs 0) * (if decide (1000000000000000000 ≤ (if nth xs 0 < 0 then -nth xs 0 else nth xs 0)) then 1 else 0), (nth xs 0).fmod 2305843009213693951 + 39373 * k + 7052087, 0])

section
variable {P : Program} {w : World} {K : PySem.W.Frag} {mg : Str → Option Value} {base : Heap}
theorem sc_law_lists : FnScope ["matter", "bit"] ["matter"] (defScope (top 56)) := ⟨rfl, rfl, rfl, by decide +kernel, rfl, by decide +kernel, by decide +kernel⟩
theorem c__law_listsk (B : Bn mg) (D : DefIn K mg "_law_lists" (top 56)) : ∀ k, C8.Cal P w K mg base (k + 2) "_law_lists" (SpG K (R_law_lists k)) [] := by
  have step : ∀ (j : Nat) (R : List PyData → PyData → Prop) (c__law_lists : C8.Cal P w K mg base (j + 1) "_law_lists" (SpG K R) []) (R' : List PyData → PyData → Prop), (∀ ds r, R' ds r → ∃ d, ds = [d] ∧ r = lstD d ∧ ∀ xs, (d = .list xs ∨ d = .tuple xs) → ∀ x ∈ xs, R [x] (lstD x)) →
      C8.Cal P w K mg base (j + 2) "_law_lists" (SpG K R') [] := fun j R c__law_lists R' hR' => by
    refine cal_pure (k := j + 1) (R := R') D sc_law_lists (fun _ _ _ _ _ _ us hl => match us, hl with | [_], _ => rfl) (fun ds r h => by obtain ⟨d, rfl, _⟩ := hR' ds r h; rfl) fun f cdv A outer s H E hr => ⟨_, (pss_one (ps_ret (pe_ifExp (pt_val (pe_callB (cr_isaT2 : CallR _ _ (rIsaT2 K)) (by rfl) B.isinstance PyProof.Rows.boot_isinstance (pa_cons (pv 0) (pa_cons (pe_tup (pa_cons (pe_bltn (v := .ty "list") (by rfl) B.list PyProof.Rows.boot_list rfl) (pa_cons (pe_bltn (v := .ty "tuple") (by rfl) B.tuple PyProof.Rows.boot_tuple rfl) pa_nil))) pa_nil)))) (pe_lc rfl sc_law_lists.nd (pi_seqX (pv 0) : PI _ _ _ (iSeqX K _)) (blkOk_by (own := [("bit", 1)]) (by kernel_rfl)) (fun _ _ _ _ _ => (pg_name (i := 1) sc_law_lists.nd rfl (by first | exact Or.inl rfl | exact Or.inr rfl))) (fun _ _ _ _ _ => pts_nil) (fun _ _ _ _ _ => (C8.pe_c c__law_lists hr (Nat.le_refl _) (by rfl) (pa_cons (pv 1) pa_nil)))) (pv 0)))), ?_⟩
    intro F vs ds r h hv
    obtain ⟨d, rfl, rfl, hd⟩ := hR' ds r h
    obtain ⟨v, rfl, r_value⟩ := dq1 hv
    refine er_ret (EvD.cast (evd_if (x := lstD d) (y := lstD d) (et_val (ev_isLT (evd_var (i := 0) rfl r_value))) (fun h1 => ?_) (fun h1 => ?_)) (by split <;> rfl))
    · cases d with
      | list xs =>
        refine EvD.cast (ev_lcD (eid_list (evd_var (i := 0) rfl r_value)) (fun F1 v1 x1 s1 hx1 r1 => lcb_name ⟨rfl, evd_call (ea_consD (evd_var (i := 1) rfl r1) ea_nil) (hd xs (.inl rfl) x1 hx1)⟩)) (by rw [lstD, lstDA_map])
      | tuple xs =>
        refine EvD.cast (ev_lcD (eid_tup (evd_var (i := 0) rfl r_value)) (fun F1 v1 x1 s1 hx1 r1 => lcb_name ⟨rfl, evd_call (ea_consD (evd_var (i := 1) rfl r1) ea_nil) (hd xs (.inr rfl) x1 hx1)⟩)) (by rw [lstD, lstDA_map])
      | _ => cases h1
    · refine EvD.cast (evd_var (i := 0) rfl r_value) ?_
      cases d with
      | list xs => cases h1
      | tuple xs => cases h1
      | _ => rfl
  intro k
  induction k with
  | zero =>
    refine step 0 _ (cal_never (k := 0) D sc_law_lists (fun _ _ _ _ _ _ us hl => match us, hl with | [_], _ => rfl)) _ fun ds r h => ?_
    obtain ⟨d, rfl, hd, rfl⟩ := h
    refine ⟨d, rfl, rfl, fun xs e x hx => ?_⟩
    rcases e with rfl | rfl <;> (rw [dpt] at hd; omega)
  | succ k ih =>
    refine step (k + 1) _ ih _ fun ds r h => ?_
    obtain ⟨d, rfl, hd, rfl⟩ := h
    refine ⟨d, rfl, rfl, fun xs e x hx => ⟨x, rfl, ?_, rfl⟩⟩
    have := dptA_le hx
    rcases e with rfl | rfl <;> (rw [dpt] at hd; omega)
theorem c__law_lists (B : Bn mg) (D : DefIn K mg "_law_lists" (top 56)) : C8.Cal P w K mg base 6 "_law_lists" (SpG K (R_law_lists 4)) [] := c__law_listsk B D 4
theorem sc_law_same : FnScope ["got", "due", "mine", "its"] ["got", "due"] (defScope (top 57)) := ⟨rfl, rfl, rfl, by decide +kernel, rfl, by decide +kernel, by decide +kernel⟩
theorem c__law_samek (B : Bn mg) (D : DefIn K mg "_law_same" (top 57)) : ∀ k, C8.Cal P w K mg base (k + 2) "_law_same" (SpG K (R_law_same k)) [] := by
  have step : ∀ (j : Nat) (R : List PyData → PyData → Prop) (c__law_same : C8.Cal P w K mg base (j + 1) "_law_same" (SpG K R) []) (R' : List PyData → PyData → Prop), (∀ ds r, R' ds r → ∃ d, ds = [d, d] ∧ r = .bool true ∧ ∀ xs, (d = .list xs ∨ d = .tuple xs) → ∀ x ∈ xs, R [x, x] (.bool true)) →
      C8.Cal P w K mg base (j + 2) "_law_same" (SpG K R') [] := fun j R c__law_same R' hR' => by
    refine cal_pure (k := j + 1) (R := R') D sc_law_same (fun _ _ _ _ _ _ us hl => match us, hl with | [_, _], _ => rfl) (fun ds r h => by obtain ⟨d, rfl, _⟩ := hR' ds r h; rfl) fun f cdv A outer s H E hr => ⟨_, (pss_cons (ps_if (pt_val (pe_callB (cr_isaT2 : CallR _ _ (rIsaT2 K)) (by rfl) B.isinstance PyProof.Rows.boot_isinstance (pa_cons (pv 1) (pa_cons (pe_tup (pa_cons (pe_bltn (v := .ty "list") (by rfl) B.list PyProof.Rows.boot_list rfl) (pa_cons (pe_bltn (v := .ty "tuple") (by rfl) B.tuple PyProof.Rows.boot_tuple rfl) pa_nil))) pa_nil)))) (pss_cons (ps_if (PW.pt (pw_or (pt_cmpR (op_neX hr.units : OpR _ _ (rNeX K)) (pe_callB (cr_isaX : CallR _ _ (rIsaX K)) (by rfl) B.isinstance PyProof.Rows.boot_isinstance (pa_cons (pv 0) (pa_cons (pe_bltn (v := .ty "list") (by rfl) B.list PyProof.Rows.boot_list rfl) pa_nil))) (pe_callB (cr_isaX : CallR _ _ (rIsaX K)) (by rfl) B.isinstance PyProof.Rows.boot_isinstance (pa_cons (pv 1) (pa_cons (pe_bltn (v := .ty "list") (by rfl) B.list PyProof.Rows.boot_list rfl) pa_nil))) (nomark _)) (pw_or1 (pt_cmpR (op_neX hr.units : OpR _ _ (rNeX K)) (pe_callB (cr_isaX : CallR _ _ (rIsaX K)) (by rfl) B.isinstance PyProof.Rows.boot_isinstance (pa_cons (pv 0) (pa_cons (pe_bltn (v := .ty "tuple") (by rfl) B.tuple PyProof.Rows.boot_tuple rfl) pa_nil))) (pe_callB (cr_isaX : CallR _ _ (rIsaX K)) (by rfl) B.isinstance PyProof.Rows.boot_isinstance (pa_cons (pv 1) (pa_cons (pe_bltn (v := .ty "tuple") (by rfl) B.tuple PyProof.Rows.boot_tuple rfl) pa_nil))) (nomark _))))) (pss_one (ps_ret pe_bl)) pss_nil)
    (pss_one (ps_ret (pe_and (pe_cmpR (op_eqX hr.units : OpR _ _ (rEqX K)) (pe_callB (cr_lenX : CallR _ _ (rLenX K)) (by rfl) B.len PySem.boot_len (pa_cons (pv 0) pa_nil)) (pe_callB (cr_lenX : CallR _ _ (rLenX K)) (by rfl) B.len PySem.boot_len (pa_cons (pv 1) pa_nil)) (nomark _)) (pe_one (pe_callB (cr_all rfl : CallR _ _ (rAll K)) (by rfl) B.all PyProof.Rows.boot_all (pa_cons (pe_lc rfl sc_law_same.nd (pi_zipX (by rfl) B.zip (pa_cons (pv 0) (pa_cons (pv 1) pa_nil)) : PI _ _ _ (iZipX K _)) (blkOk_by (own := [("mine", 2), ("its", 3)]) (by kernel_rfl)) (fun _ _ _ _ _ => (pg_tup (n := 2) rfl (pgs_cons (pg_name (i := 2) sc_law_same.nd rfl (by first | exact Or.inl rfl | exact Or.inr rfl)) (pgs_cons (pg_name (i := 3) sc_law_same.nd rfl (by first | exact Or.inl rfl | exact Or.inr rfl)) pgs_nil)) : PG _ _ (gTup K 2 _))) (fun _ _ _ _ _ => pts_nil) (fun _ _ _ _ _ => (C8.pe_c c__law_same hr (Nat.le_refl _) (by rfl) (pa_cons (pv 2) (pa_cons (pv 3) pa_nil))))) pa_nil))))))) pss_nil)
    (pss_cons (ps_if (pt_cmp (pc_isN (pv 1))) (pss_one (ps_ret (pe_cmp (pc_isN (pv 0))))) pss_nil)
    (pss_cons (ps_if (pt_val (pe_callB (cr_isaT2 : CallR _ _ (rIsaT2 K)) (by rfl) B.isinstance PyProof.Rows.boot_isinstance (pa_cons (pv 1) (pa_cons (pe_tup (pa_cons (pe_bltn (v := .ty "bool") (by rfl) B.bool PyProof.Rows.boot_bool rfl) (pa_cons (pe_bltn (v := .ty "str") (by rfl) B.str PyProof.Rows.boot_str rfl) pa_nil))) pa_nil)))) (pss_one (ps_ret (pe_and (pe_cmpR (op_eqX hr.units : OpR _ _ (rEqX K)) (pe_callB (cr_isaX : CallR _ _ (rIsaX K)) (by rfl) B.isinstance PyProof.Rows.boot_isinstance (pa_cons (pv 0) (pa_cons (pe_bltn (v := .ty "bool") (by rfl) B.bool PyProof.Rows.boot_bool rfl) pa_nil))) (pe_callB (cr_isaX : CallR _ _ (rIsaX K)) (by rfl) B.isinstance PyProof.Rows.boot_isinstance (pa_cons (pv 1) (pa_cons (pe_bltn (v := .ty "bool") (by rfl) B.bool PyProof.Rows.boot_bool rfl) pa_nil))) (nomark _)) (pe_and (pe_cmpR (op_eqX hr.units : OpR _ _ (rEqX K)) (pe_callB (cr_isaX : CallR _ _ (rIsaX K)) (by rfl) B.isinstance PyProof.Rows.boot_isinstance (pa_cons (pv 0) (pa_cons (pe_bltn (v := .ty "str") (by rfl) B.str PyProof.Rows.boot_str rfl) pa_nil))) (pe_callB (cr_isaX : CallR _ _ (rIsaX K)) (by rfl) B.isinstance PyProof.Rows.boot_isinstance (pa_cons (pv 1) (pa_cons (pe_bltn (v := .ty "str") (by rfl) B.str PyProof.Rows.boot_str rfl) pa_nil))) (nomark _)) (pe_one (pe_cmpR (op_eqX hr.units : OpR _ _ (rEqX K)) (pv 0) (pv 1) (nomark _))))))) pss_nil)
    (pss_one (ps_ret (pe_and (pe_callB (cr_isaX : CallR _ _ (rIsaX K)) (by rfl) B.isinstance PyProof.Rows.boot_isinstance (pa_cons (pv 0) (pa_cons (pe_bltn (v := .ty "int") (by rfl) B.int PyProof.Rows.boot_int rfl) pa_nil))) (pe_and (pe_not (pe_callB (cr_isaX : CallR _ _ (rIsaX K)) (by rfl) B.isinstance PyProof.Rows.boot_isinstance (pa_cons (pv 0) (pa_cons (pe_bltn (v := .ty "bool") (by rfl) B.bool PyProof.Rows.boot_bool rfl) pa_nil)))) (pe_one (pe_cmpR (op_eqX hr.units : OpR _ _ (rEqX K)) (pv 0) (pv 1) (nomark _)))))))))), ?_⟩
    intro F vs ds r h hv
    obtain ⟨d, rfl, rfl, hd⟩ := hR' ds r h
    obtain ⟨vg, vd, rfl, rg, rd⟩ := dq2 hv
    have allT : ∀ xs : List PyData, (.list ((xs.zipWith pairD xs).map fun _ => PyData.bool true) : PyData) = Datum.toD ((xs.zipWith pairD xs).map fun _ => true) := fun xs => by
      show PyData.list _ = PyData.list (List.map _ (List.map _ _))
      rw [List.map_map]
      rfl
    have self : ∀ {xs : List PyData} {p : PyData}, p ∈ xs.zipWith pairD xs → ∃ y, y ∈ xs ∧ p = pairD y y := fun {xs p} hp => by
      obtain ⟨i, hi⟩ := List.mem_iff_getElem?.mp hp
      rw [List.getElem?_zipWith_eq_some] at hi
      obtain ⟨x, y, h1, h2, rfl⟩ := hi
      rw [h1] at h2
      cases h2
      exact ⟨x, List.mem_of_getElem? h1, rfl⟩
    cases d with
    | list xs =>
      refine er_if (b := true) (et_val (ev_isLT (evd_var (i := 1) rfl rd))) (fun _ => ?_) (fun h => by cases h)
      refine er_if (b := false) (et_or (b := false) (d := false) (et_test (ev_ne (ev_isList (evd_var (i := 0) rfl rg)) (ev_isList (evd_var (i := 1) rfl rd)))) fun _ => et_test (ev_ne (ev_isTuple (evd_var (i := 0) rfl rg)) (ev_isTuple (evd_var (i := 1) rfl rd)))) (fun h => by cases h) (fun _ => ?_)
      refine er_stop (er_retE (x := true) (Ev.cast (ev_and (ev_eq (ev_lenDL (evd_var (i := 0) rfl rg)) (ev_lenDL (evd_var (i := 1) rfl rd))) fun _ => ev_all (EvD.cast (ev_lcD (f := fun _ => .bool true) (eid_zip2 (ezd_list (evd_var (i := 0) rfl rg)) (ezd_list (evd_var (i := 1) rfl rd)) (Nat.le_refl _)) (fun F1 v1 x1 s1 hx1 r1 => ?_)) (allT xs)).t) ?_) rfl)
      · obtain ⟨y, hy, rfl⟩ := self hx1
        exact lcb_pairD r1 fun u1 u2 q1 q2 => ⟨rfl, evd_call (ea_consD (evd_var (i := 2) rfl q1) (ea_consD (evd_var (i := 3) rfl q2) ea_nil)) (hd xs (.inl rfl) y hy)⟩
      · rw [decide_eq_true rfl, Bool.true_and, List.all_map, List.all_eq_true]
        exact fun _ _ => rfl
    | tuple xs =>
      refine er_if (b := true) (et_val (ev_isLT (evd_var (i := 1) rfl rd))) (fun _ => ?_) (fun h => by cases h)
      refine er_if (b := false) (et_or (b := false) (d := false) (et_test (ev_ne (ev_isList (evd_var (i := 0) rfl rg)) (ev_isList (evd_var (i := 1) rfl rd)))) fun _ => et_test (ev_ne (ev_isTuple (evd_var (i := 0) rfl rg)) (ev_isTuple (evd_var (i := 1) rfl rd)))) (fun h => by cases h) (fun _ => ?_)
      refine er_stop (er_retE (x := true) (Ev.cast (ev_and (ev_eq (ev_lenDT (evd_var (i := 0) rfl rg)) (ev_lenDT (evd_var (i := 1) rfl rd))) fun _ => ev_all (EvD.cast (ev_lcD (f := fun _ => .bool true) (eid_zip2 (ezd_tup (evd_var (i := 0) rfl rg)) (ezd_tup (evd_var (i := 1) rfl rd)) (Nat.le_refl _)) (fun F1 v1 x1 s1 hx1 r1 => ?_)) (allT xs)).t) ?_) rfl)
      · obtain ⟨y, hy, rfl⟩ := self hx1
        exact lcb_pairD r1 fun u1 u2 q1 q2 => ⟨rfl, evd_call (ea_consD (evd_var (i := 2) rfl q1) (ea_consD (evd_var (i := 3) rfl q2) ea_nil)) (hd xs (.inr rfl) y hy)⟩
      · rw [decide_eq_true rfl, Bool.true_and, List.all_map, List.all_eq_true]
        exact fun _ _ => rfl
    | none =>
      refine er_if (b := false) (et_val (ev_isLT (evd_var (i := 1) rfl rd))) (fun h => by cases h) (fun _ => er_next ?_)
      refine er_if (b := true) (et_val (ev_isN (evd_var (i := 1) rfl rd))) (fun _ => ?_) (fun h => by cases h)
      exact er_stop (er_retE (ev_isN (evd_var (i := 0) rfl rg)) rfl)
    | bool b =>
      have rg' : Rp K F vg b := rg
      have rd' : Rp K F vd b := rd
      refine er_if (b := false) (et_val (ev_isLT (evd_var (i := 1) rfl rd))) (fun h => by cases h) (fun _ => er_next ?_)
      refine er_if (b := false) (et_val (ev_isN (evd_var (i := 1) rfl rd))) (fun h => by cases h) (fun _ => er_next ?_)
      refine er_if (b := true) (et_val (ev_isBS (evd_var (i := 1) rfl rd))) (fun _ => ?_) (fun h => by cases h)
      refine er_stop (er_retE (x := true) (Ev.cast (ev_and (ev_eq (ev_isBool (evd_var (i := 0) rfl rg)) (ev_isBool (evd_var (i := 1) rfl rd))) fun _ => ev_and (ev_eq (ev_isStr (evd_var (i := 0) rfl rg)) (ev_isStr (evd_var (i := 1) rfl rd))) fun _ => ev_eq (ev_var (i := 0) rfl rg') (ev_var (i := 1) rfl rd')) ?_) rfl)
      rw [decide_eq_true (show b = b from rfl)]
      rfl
    | str z =>
      have rg' : Rp K F vg z := rg
      have rd' : Rp K F vd z := rd
      refine er_if (b := false) (et_val (ev_isLT (evd_var (i := 1) rfl rd))) (fun h => by cases h) (fun _ => er_next ?_)
      refine er_if (b := false) (et_val (ev_isN (evd_var (i := 1) rfl rd))) (fun h => by cases h) (fun _ => er_next ?_)
      refine er_if (b := true) (et_val (ev_isBS (evd_var (i := 1) rfl rd))) (fun _ => ?_) (fun h => by cases h)
      refine er_stop (er_retE (x := true) (Ev.cast (ev_and (ev_eq (ev_isBool (evd_var (i := 0) rfl rg)) (ev_isBool (evd_var (i := 1) rfl rd))) fun _ => ev_and (ev_eq (ev_isStr (evd_var (i := 0) rfl rg)) (ev_isStr (evd_var (i := 1) rfl rd))) fun _ => ev_eq (ev_var (i := 0) rfl rg') (ev_var (i := 1) rfl rd')) ?_) rfl)
      rw [decide_eq_true (show z = z from rfl)]
      rfl
    | int n =>
      have rg' : Rp K F vg n := rg
      have rd' : Rp K F vd n := rd
      refine er_if (b := false) (et_val (ev_isLT (evd_var (i := 1) rfl rd))) (fun h => by cases h) (fun _ => er_next ?_)
      refine er_if (b := false) (et_val (ev_isN (evd_var (i := 1) rfl rd))) (fun h => by cases h) (fun _ => er_next ?_)
      refine er_if (b := false) (et_val (ev_isBS (evd_var (i := 1) rfl rd))) (fun h => by cases h) (fun _ => er_next ?_)
      refine er_retE (x := true) (Ev.cast (ev_and (ev_isInt (evd_var (i := 0) rfl rg)) fun _ => ev_and (ev_not (ev_isBool (evd_var (i := 0) rfl rg))) fun _ => ev_eq (ev_var (i := 0) rfl rg') (ev_var (i := 1) rfl rd')) ?_) rfl
      rw [decide_eq_true (show n = n from rfl)]
      rfl
    | dict kvs => cases rg
  intro k
  induction k with
  | zero =>
    refine step 0 _ (cal_never (k := 0) D sc_law_same (fun _ _ _ _ _ _ us hl => match us, hl with | [_, _], _ => rfl)) _ fun ds r h => ?_
    obtain ⟨d, rfl, hd, rfl⟩ := h
    refine ⟨d, rfl, rfl, fun xs e x hx => ?_⟩
    rcases e with rfl | rfl <;> (rw [dpt] at hd; omega)
  | succ k ih =>
    refine step (k + 1) _ ih _ fun ds r h => ?_
    obtain ⟨d, rfl, hd, rfl⟩ := h
    refine ⟨d, rfl, rfl, fun xs e x hx => ⟨x, rfl, ?_, rfl⟩⟩
    have := dptA_le hx
    rcases e with rfl | rfl <;> (rw [dpt] at hd; omega)
theorem c__law_same (B : Bn mg) (D : DefIn K mg "_law_same" (top 57)) : C8.Cal P w K mg base 8 "_law_same" (SpG K (R_law_same 6)) [] := c__law_samek B D 6
theorem sc_law_box : FnScope ["script", "k", "bit_so"] ["script", "k"] (defScope (top 51)) := ⟨rfl, rfl, rfl, by decide +kernel, rfl, by decide +kernel, by decide +kernel⟩
theorem c__law_box (B : Bn mg) (D : DefIn K mg "_law_box" (top 51)) : C8.Cal P w K mg base 1 "_law_box" (SpG K R_law_box) [] := by
  refine cal_pure (R := R_law_box) D sc_law_box (fun _ _ _ _ _ _ us hl => match us, hl with | [_, _], _ => rfl) (by
    rintro ds r ⟨_, _, rfl, _⟩; rfl) fun f cdv A outer s H E hr => ⟨_, (pss_cons (ps_set (i := 2) sc_law_box.nd rfl (by first | exact Or.inl rfl | exact Or.inr rfl) (pe_ifExp (pt_cmpR op_lt (pv 1) (pe_callB (cr_lenX : CallR _ _ (rLenX K)) (by rfl) B.len PySem.boot_len (pa_cons (pv 0) pa_nil)) (nomark _)) (pe_ix (ix_seq : IxR _ (rIx K)) (pv 0) (pv 1) (fun _ _ => rfl)) pe_int))
    (pss_one (ps_ret (pe_lst (pa_cons (pe_op op_mul (pe_callB cr_absX (by rfl) B.abs PyProof.Rows.boot_abs (pa_cons (pv 2) pa_nil)) (pe_callTy cr_intX (by rfl) B.int PyProof.Rows.boot_int (pa_cons (pe_cmpR op_ge (pe_callB cr_absX (by rfl) B.abs PyProof.Rows.boot_abs (pa_cons (pv 2) pa_nil)) (pe_op op_pow pe_int pe_int) (nomark _)) pa_nil))) (pa_cons (pe_op op_add (pe_op op_add (pe_op op_modN (pe_callTy cr_intX (by rfl) B.int PyProof.Rows.boot_int (pa_cons (pv 2) pa_nil)) pe_int) (pe_op op_mul pe_int (pv 1))) pe_int) (pa_cons pe_int pa_nil))))))), ?_⟩
  rintro F vs ds r ⟨script, k, rfl, hp, rfl⟩ hv
  obtain ⟨v_script, v_k, rfl, r_script, r_k⟩ := dq2 hv
  replace r_script : Rp K F v_script script := r_script
  replace r_k : Rp K F v_k k := r_k
  obtain ⟨hne, rfl⟩ := hp
  have hl := (len0 hne).2
  refine (er_set (ev_if (et_test (ev_b0 (ev_var (i := 1) rfl r_k) (ev_lenL (ev_var (i := 0) rfl r_script)))) (fun h1 => (ev_nthL (ev_var (i := 0) rfl r_script) (ev_var (i := 1) rfl r_k) ?_)) (fun h1 => ev_int)) fun F1 v1 s1 r1 => (er_retE (ev_dL (es_cons (ev_i (ev_abs (ev_var (i := 2) rfl r1)) (ev_intB (ev_b0 (ev_abs (ev_var (i := 2) rfl r1)) (ev_i ev_int ev_int ?_))) ?_) (es_cons (ev_i0 (ev_i0 (ev_i (ev_intI (ev_var (i := 2) rfl r1)) ev_int ?_) (ev_i ev_int (ev_var (i := 1) rfl (r_k.mono s1)) ?_)) ev_int) (es_cons ev_int es_nil)))) ?_))
  -- index: script[k]
  -- Pow: 10 ** 18
  -- Mult: abs(bit_so) * int(abs(bit_so) >= 10 ** 18)
  -- Mod: int(bit_so) % 2305843009213693951
  -- Mult: 39373 * k
  -- return [abs(bit_so) * int(abs(bit_so) >= 10 ** 18), int(bit_so) % 2305843009213693951 + 39373 * k + 7052087, 0]
  · exact len0 hne
  · exact ⟨by decide, by decide, by decide⟩
  · have hB : ∀ b : Bool, -(2 ^ 64) < (if b = true then (1 : Int) else 0) ∧ (if b = true then (1 : Int) else 0) < 2 ^ 64 := by
      intro b
      cases b <;> decide
    exact .inr (hB _)
  · decide
  · exact cmulL (by decide) (by decide)
  · rw [decide_eq_true hl]
    rfl

end
end Sp

set_option Elab.async false
set_option linter.all false
set_option maxRecDepth 100000
set_option maxHeartbeats 4000000
namespace Sp
open PySem PySem.Spec PyProof.Rows L2
open PySem.W (Datum DatumOrd Tup)

def R_take : List PyData → PyData → Prop := fun ds r => ∃ b i : Int, ds = [.int b] ∧ (1 ≤ b ∧ b < 2 ^ 30) ∧ 0 ≤ i ∧ i < b ∧ r = .int i
theorem take_ex {b : Int} (h : 1 ≤ b ∧ b < 2 ^ 30) : ∃ r, R_take [.int b] r := ⟨.int 0, b, 0, rfl, h, by omega, by omega, rfl⟩
section
variable {P : Program} {w : World} {K : PySem.W.Frag} {mg : Str → Option Value} {base : Heap}
theorem sc_law_take : FnScope ["tin", "below_so", "once_so", "wide_so", "twice_so", "drawn_so"] ["tin", "below_so"] (defScope (top 52)) := ⟨rfl, rfl, rfl, by decide +kernel, rfl, by decide +kernel, by decide +kernel⟩
theorem c__law_take (B : Bn mg) (D : DefIn K mg "_law_take" (top 52)) : C8.Cal P w K mg base 1 "_law_take" (SpD K 1 R_take) [] := by
  refine cal_draw (R := R_take) (n := 1) D sc_law_take (fun _ _ _ _ _ _ us hl => match us, hl with | [_, _], _ => rfl) (by
    rintro ds r ⟨_, _, rfl, _⟩; rfl) fun f cdv A outer s H E hr => ⟨_, (pss_cons (ps_if (pt_cmpR op_gt (pe_ix (ix_seq : IxR _ (rIx K)) (pv 0) pe_int (fun _ _ => rfl)) pe_int (nomark _)) (pss_cons (ps_set (i := 5) sc_law_take.nd rfl (by first | exact Or.inl rfl | exact Or.inr rfl) (pe_op op_modN (pe_callTy cr_intX (by rfl) B.int PyProof.Rows.boot_int (pa_cons (pe_ix (ix_seq : IxR _ (rIx K)) (pv 0) pe_int (fun _ _ => rfl)) pa_nil)) (pv 1)))
    (pss_cons (ps_asg (pe_op op_fdivN (pe_ix (ix_seq : IxR _ (rIx K)) (pv 0) pe_int (fun _ _ => rfl)) (pv 1)) (pg_sub (pv 0) pe_int set_list))
    (pss_one (ps_ret (pv 5))))) pss_nil)
    (pss_cons (ps_asg (pe_op op_add (pe_ix (ix_seq : IxR _ (rIx K)) (pv 0) pe_int (fun _ _ => rfl)) pe_int) (pg_sub (pv 0) pe_int set_list))
    (pss_cons (ps_set (i := 2) sc_law_take.nd rfl (by first | exact Or.inl rfl | exact Or.inr rfl) (pe_op op_modN (pe_callTy cr_intX (by rfl) B.int PyProof.Rows.boot_int (pa_cons (pe_op op_mul (pe_op op_add (pe_ix (ix_seq : IxR _ (rIx K)) (pv 0) pe_int (fun _ _ => rfl)) (pe_op op_mul pe_int (pe_ix (ix_seq : IxR _ (rIx K)) (pv 0) pe_int (fun _ _ => rfl)))) (pe_op op_add pe_int (pe_ix (ix_seq : IxR _ (rIx K)) (pv 0) pe_int (fun _ _ => rfl)))) pa_nil)) pe_int))
    (pss_cons (ps_set (i := 3) sc_law_take.nd rfl (by first | exact Or.inl rfl | exact Or.inr rfl) (pe_op op_add (pe_op op_modN (pe_callTy cr_intX (by rfl) B.int PyProof.Rows.boot_int (pa_cons (pv 2) pa_nil)) pe_int) pe_int))
    (pss_cons (ps_set (i := 4) sc_law_take.nd rfl (by first | exact Or.inl rfl | exact Or.inr rfl) (pe_op op_modN (pe_callTy cr_intX (by rfl) B.int PyProof.Rows.boot_int (pa_cons (pe_op op_mul (pe_op op_add (pe_op op_add (pv 2) (pe_ix (ix_seq : IxR _ (rIx K)) (pv 0) pe_int (fun _ _ => rfl))) (pe_op op_fdivN (pe_ix (ix_seq : IxR _ (rIx K)) (pv 0) pe_int (fun _ _ => rfl)) pe_int)) (pv 3)) pa_nil)) pe_int))
    (pss_one (ps_ret (pe_op op_modN (pe_callTy cr_intX (by rfl) B.int PyProof.Rows.boot_int (pa_cons (pe_op op_fdivN (pe_op op_modN (pe_callTy cr_intX (by rfl) B.int PyProof.Rows.boot_int (pa_cons (pe_op op_add (pe_op op_mul (pv 4) pe_int) (pv 2)) pa_nil)) pe_int) pe_int) pa_nil)) (pv 1))))))))), ?_⟩
  rintro F tin vs ds ⟨r, b, i, rfl, ⟨hb1, hb2⟩, _⟩ hv
  obtain ⟨v_b, rfl, r_b⟩ := dq1 hv
  intro c H k a ok ct ⟨x, y, z, e, bo⟩ D q
  have okl := okc_less1 (p := tin) ok
  have rt : Rp K (hid (less1 c tin) H) (.ref tin) [x, y, z] := rp_thaw e
  have rb : Rp K (hid (less1 c tin) H) v_b b := Rp.mono (a.trans hid_less1) r_b
  have i0 : (0 : Int) ≤ 0 ∧ (0 : Int) < (([x, y, z] : List Int).length : Int) := ⟨by decide, by show (0 : Int) < 3; decide⟩
  have i1 : (0 : Int) ≤ 1 ∧ (1 : Int) < (([x, y, z] : List Int).length : Int) := ⟨by decide, by show (1 : Int) < 3; decide⟩
  have i2 : (0 : Int) ≤ 2 ∧ (2 : Int) < (([x, y, z] : List Int).length : Int) := ⟨by decide, by show (2 : Int) < 3; decide⟩
  refine (et_test (ev_b0 (ev_nthL (ev_var (i := 0) rfl rt) ev_int ?_) ev_int)) (less1 c tin) H (Same.refl _) okl _ fun H1 s1 => ?_
  · exact i0
  by_cases hx : 0 < x
  · have hd : decide (0 < nth [x, y, z] 0) = true := decide_eq_true hx
    rw [if_pos hd]
    refine (ev_i (ev_intI (ev_nthL (ev_var (i := 0) rfl rt) ev_int ?_)) (ev_var (i := 1) rfl rb) ?_) (less1 c tin) H1 s1.hid (okl.mono s1) _ fun v H2 s2 r2 => ?_
    · exact i0
    · show b ≠ 0
      omega
    have rt2 := rt.mono (s1.trans s2).hid
    have rb2 := rb.mono (s1.trans s2).hid
    have e2 : H2 tin = some (.lst [.int x, .int y, .int z]) := s2 _ _ (s1 _ _ e)
    refine (ev_i (ev_nthL (ev_var (i := 0) rfl rt2) ev_int ?_) (ev_var (i := 1) rfl rb2) ?_) (less1 c tin) H2 (Same.refl _) ((okl.mono s1).mono s2) _ fun w H3 s3 r3 => ?_
    · exact i0
    · exact cdiv hb1 hb2
    have ev := rp_int r2
    have ew := rp_int r3
    subst ev ew
    refine ⟨.ref tin, rfl, tin, _, 0, 0, rfl, rfl, s3 _ _ e2, rfl, _, rfl, ?_⟩
    have hx0 := bo.x0
    have hm : Int.fmod x b = x % b := Int.fmod_eq_emod_of_nonneg _ (by omega)
    have hq : Int.fdiv x b = x / b := Int.fdiv_eq_ediv_of_nonneg _ (by omega)
    have h1 := Int.emod_nonneg x (show b ≠ 0 by omega)
    have h2 := Int.emod_lt_of_pos x (show 0 < b by omega)
    refine q _ _ (.int (Int.fmod x b)) ⟨b, _, rfl, ⟨hb1, hb2⟩, by omega, by omega, rfl⟩ ((Sx.of ((s1.trans s2).trans s3)).trans Sx.upd) ⟨Int.fdiv x b, y, z, upd_same .., ⟨by rw [hq]; exact Int.ediv_nonneg hx0 (by omega), bo.y0, bo.y1, bo.z0, by have := bo.z1; omega⟩⟩ (.int _)
  · have hd : ¬ decide (0 < nth [x, y, z] 0) = true := fun h => hx (of_decide_eq_true h)
    rw [if_neg hd]
    have rt1 := rt.mono s1.hid
    refine (ev_i0 (ev_nthL (ev_var (i := 0) rfl rt) ev_int ?_) ev_int) (less1 c tin) H1 s1.hid (okl.mono s1) _ fun w H3 s3 r3 => ?_
    · exact i2
    have e3 : H3 tin = some (.lst [.int x, .int y, .int z]) := s3 _ _ (s1 _ _ e)
    have ew := rp_int r3
    subst ew
    refine ⟨.ref tin, rfl, tin, _, 2, 2, rfl, rfl, e3, rfl, ?_⟩
    have sx : Sx tin H (upd H3 tin (.lst [.int x, .int y, .int (z + 1)])) := (Sx.of (s1.trans s3)).trans Sx.upd
    have okl4 := okc_less1 (p := tin) (sx.okc ok)
    have rt3 : Rp K (hid (less1 c tin) (upd H3 tin (.lst [.int x, .int y, .int (z + 1)]))) (.ref tin) [x, y, z + 1] := rp_thaw (upd_same ..)
    have rb3 : Rp K (hid (less1 c tin) (upd H3 tin (.lst [.int x, .int y, .int (z + 1)]))) v_b b := Rp.mono ((a.trans (sx.hid ct)).trans hid_less1) r_b
    have j1 : (0 : Int) ≤ 1 ∧ (1 : Int) < (([x, y, z + 1] : List Int).length : Int) := ⟨by decide, by show (1 : Int) < 3; decide⟩
    have j2 : (0 : Int) ≤ 2 ∧ (2 : Int) < (([x, y, z + 1] : List Int).length : Int) := ⟨by decide, by show (2 : Int) < 3; decide⟩
    have hz0 := bo.z0
    have hz1 := bo.z1
    have hy0 := bo.y0
    have hy1 := bo.y1
    refine run_er (c := less1 c tin) (Pv := fun d => ∃ i : Int, d = .int i ∧ 0 ≤ i ∧ i < b) ⟨_, ?last, (er_set (ev_i (ev_intI (ev_i (ev_i0 (ev_nthL (ev_var (i := 0) rfl rt3) ev_int ?_) (ev_i ev_int (ev_nthL (ev_var (i := 0) rfl rt3) ev_int ?_) ?_)) (ev_i0 ev_int (ev_nthL (ev_var (i := 0) rfl rt3) ev_int ?_)) ?_)) ev_int ?_) fun F1 v1 s1 r1 => (er_set (ev_i0 (ev_i (ev_intI (ev_var (i := 2) rfl r1)) ev_int ?_) ev_int) fun F2 v2 s2 r2 => (er_set (ev_i (ev_intI (ev_i (ev_i0 (ev_i0 (ev_var (i := 2) rfl (r1.mono s2)) (ev_nthL (ev_var (i := 0) rfl (rt3.mono (s1.trans s2))) ev_int ?_)) (ev_i (ev_nthL (ev_var (i := 0) rfl (rt3.mono (s1.trans s2))) ev_int ?_) ev_int ?_)) (ev_var (i := 3) rfl r2) ?_)) ev_int ?_) fun F3 v3 s3 r3 => (er_retE (ev_i (ev_intI (ev_i (ev_i (ev_intI (ev_i0 (ev_i (ev_var (i := 4) rfl r3) ev_int ?_) (ev_var (i := 2) rfl (r1.mono (s2.trans s3))))) ev_int ?_) ev_int ?_)) (ev_var (i := 1) rfl (rb3.mono (s1.trans (s2.trans s3)))) ?_) rfl))))⟩ okl4 ?fin
    case last =>
      have hb0 : b ≠ 0 := by omega
      refine ⟨_, rfl, ?_, ?_⟩
      · rw [Int.fmod_eq_emod_of_nonneg _ (by omega)]
        exact Int.emod_nonneg _ hb0
      · rw [Int.fmod_eq_emod_of_nonneg _ (by omega)]
        exact Int.emod_lt_of_pos _ (by omega)
    case fin =>
      rintro v H' d ⟨i, rfl, h0, h1⟩ s5 r5
      refine q v H' _ ⟨b, i, rfl, ⟨hb1, hb2⟩, h0, h1, rfl⟩ (sx.trans (.of s5)) ⟨x, y, z + 1, s5 _ _ (upd_same ..), bo.x0, bo.y0, bo.y1, by omega, by omega⟩ ?_
      cases r5
      exact .int _
    all_goals first
      | exact j1
      | exact j2
      | (show (_ : Int) ≠ 0; decide)
      | (show b ≠ 0; omega)
      | exact .inl ⟨by decide, by decide⟩
      | exact .inr ⟨by decide, by decide⟩
      | exact cdiv (by decide) (by decide)
      | exact .inr ⟨by show -(2 ^ 64) < 39373 + (z + 1); omega, by show 39373 + (z + 1) < 2 ^ 64; omega⟩
      | (refine .inr ?_
         generalize ((nth [x, y, z + 1] 1 + 48271 * nth [x, y, z + 1] 2) * (39373 + nth [x, y, z + 1] 2)).fmod 2147483647 = o
         have h1 := Int.emod_nonneg o (show (40009 : Int) ≠ 0 by decide)
         have h2 := Int.emod_lt_of_pos o (show (0 : Int) < 40009 by decide)
         rw [Int.fmod_eq_emod_of_nonneg _ (by decide)]
         omega)

theorem perm_erase {α : Type} : ∀ {xs : List α} {i : Nat} (h : i < xs.length), ([xs[i]] ++ xs.eraseIdx i).Perm xs
  | x :: xs, 0, _ => List.Perm.refl _
  | x :: xs, i + 1, h => by
    have hi : i < xs.length := by simpa using h
    show (xs[i] :: x :: xs.eraseIdx i).Perm (x :: xs)
    exact (List.Perm.swap x xs[i] _).trans (List.Perm.cons x (perm_erase hi))
def R_of : List PyData → PyData → Prop := fun ds r => ∃ xs : List PyData, (ds = [.list xs] ∨ ds = [.tuple xs]) ∧ (xs ≠ [] ∧ xs.length ≤ 1000) ∧ r ∈ xs
theorem of_ex {α : Type} [DecidableEq α] [Datum α] {xs : List α} (h : xs ≠ []) (hl : xs.length ≤ 1000) : ∃ r, R_of [Datum.toD xs] r := ⟨_, xs.map Datum.toD, .inl rfl, ⟨fun e => h (List.map_eq_nil_iff.mp e), by rw [List.length_map]; exact hl⟩, List.mem_map.mpr ⟨_, List.head_mem h, rfl⟩⟩
theorem of_exT {α : Type} [DecidableEq α] [Datum α] {xs : List α} (h : xs ≠ []) (hl : xs.length ≤ 1000) : ∃ r, R_of [Datum.toD (Tup.mk xs)] r := ⟨_, xs.map Datum.toD, .inr rfl, ⟨fun e => h (List.map_eq_nil_iff.mp e), by rw [List.length_map]; exact hl⟩, List.mem_map.mpr ⟨_, List.head_mem h, rfl⟩⟩
theorem of_un {α : Type} [DecidableEq α] [Datum α] {xs : List α} {r : PyData} (h : R_of [Datum.toD xs] r) : ∃ x ∈ xs, r = Datum.toD x := by
  obtain ⟨ys, e, _, hr⟩ := h
  have e2 : ys = xs.map Datum.toD := by
    rcases e with e | e
    · injection e with e _
      injection e with e
      exact e.symm
    · injection e with e _
      cases e
  rw [e2] at hr
  obtain ⟨x, hx, rfl⟩ := List.mem_map.mp hr
  exact ⟨x, hx, rfl⟩
theorem of_unT {α : Type} [DecidableEq α] [Datum α] {xs : List α} {r : PyData} (h : R_of [Datum.toD (Tup.mk xs)] r) : ∃ x ∈ xs, r = Datum.toD x := by
  obtain ⟨ys, e, _, hr⟩ := h
  have e2 : ys = xs.map Datum.toD := by
    rcases e with e | e
    · injection e with e _
      cases e
    · injection e with e _
      injection e with e
      exact e.symm
  rw [e2] at hr
  obtain ⟨x, hx, rfl⟩ := List.mem_map.mp hr
  exact ⟨x, hx, rfl⟩
def R_pick : List PyData → PyData → Prop := fun ds r => ∃ (xs : List PyData) (m : Int), ds = [.list xs, .int m] ∧ (0 ≤ m ∧ xs.length ≤ 64) ∧ ∃ ys zs : List PyData, r = .list ys ∧ (ys ++ zs).Perm xs ∧ ys.length = min m.toNat xs.length
theorem eb_ixD {K : PySem.W.Frag} {F : Hp} {tin : Addr} {n : Nat} {σ : L2.St} {ta tb : TE} {xs : List PyData} {d : PyData} (hd : d = .list xs ∨ d = .tuple xs) (ha : EvD K F ta σ d) (hb : EvB K F tin n tb σ (fun d => ∃ i : Int, d = .int i ∧ 0 ≤ i ∧ i < (xs.length : Int))) : EvB K F tin n (tOp (rIx K) ta tb) σ (fun d => d ∈ xs) := fun c H k a ok ct b Q q =>
  ha c H a ok _ fun v H1 s1 r1 => hb c H1 k (a.trans s1.hid) (ok.mono s1) ct (b.same s1) _ fun w H2 e he s2 b2 r2 => by
    obtain ⟨i, e', h0, h1⟩ := he
    subst e'
    have hlt : i.toNat < xs.length := by omega
    have ei : i = ((i.toNat : Nat) : Int) := (Int.toNat_of_nonneg h0).symm
    have hw : w = .int i := by cases r2; rfl
    have r3 := dp_mono (s2.hid ct) _ _ r1
    rcases hd with rfl | rfl
    · cases r3 with
      | @lst p vs _ hs hr =>
        obtain ⟨z, hz, rz⟩ := DqAll.get hr (List.getElem?_eq_getElem hlt)
        exact .inl ⟨p, vs, i, z, rfl, hw, .inl (rd_le hs), by rw [ei]; exact atI_nat hz, q _ H2 _ (List.getElem_mem hlt) ((Sx.of s1).trans s2) b2 rz⟩
    · cases r3 with
      | @tup p vs _ hs hr =>
        obtain ⟨z, hz, rz⟩ := DqAll.get hr (List.getElem?_eq_getElem hlt)
        exact .inr (.inl ⟨p, vs, i, z, rfl, hw, sqt_le (.inl (.inl hs)), by rw [ei]; exact atI_nat hz, q _ H2 _ (List.getElem_mem hlt) ((Sx.of s1).trans s2) b2 rz⟩)
theorem ev_lenLT {K : PySem.W.Frag} {F : Hp} {σ : L2.St} {ta : TE} {xs : List PyData} {d : PyData} (hd : d = .list xs ∨ d = .tuple xs) (ha : EvD K F ta σ d) : Ev K F (tCB (rLenX K) (tCons ta tNil)) σ (xs.length : Int) := by
  rcases hd with rfl | rfl
  · exact ev_lenDL ha
  · exact ev_lenDT ha
theorem sc_law_of : FnScope ["tin", "goods_so"] ["tin", "goods_so"] (defScope (top 54)) := ⟨rfl, rfl, rfl, by decide +kernel, rfl, by decide +kernel, by decide +kernel⟩
theorem c__law_of (B : Bn mg) (D : DefIn K mg "_law_of" (top 54)) (c__law_take : C8.Cal P w K mg base 1 "_law_take" (SpD K 1 R_take) []) : C8.Cal P w K mg base 2 "_law_of" (SpD K 1 R_of) [] := by
  refine cal_draw (R := R_of) (n := 1) D sc_law_of (fun _ _ _ _ _ _ us hl => match us, hl with | [_, _], _ => rfl) (by
    rintro ds r ⟨_, rfl | rfl, _⟩ <;> rfl) fun f cdv A outer s H E hr => ⟨_, (pss_one (ps_ret (pe_ix (ix_seq : IxR _ (rIx K)) (pv 1) (C8.pe_c c__law_take hr (by decide) (by rfl) (pa_cons (pv 0) (pa_cons (pe_callB (cr_lenX : CallR _ _ (rLenX K)) (by rfl) B.len PySem.boot_len (pa_cons (pv 1) pa_nil)) pa_nil))) (fun _ _ => rfl)))), ?_⟩
  rintro F tin vs ds ⟨r, xs, hds, ⟨hne, hl⟩, hr0⟩ hv
  obtain ⟨d, hd, rfl⟩ : ∃ d, (d = .list xs ∨ d = .tuple xs) ∧ ds = [d] := by
    rcases hds with h | h
    · exact ⟨_, .inl rfl, h⟩
    · exact ⟨_, .inr rfl, h⟩
  obtain ⟨v_goods, rfl, rg⟩ := dq1 hv
  have hlen : 1 ≤ (xs.length : Int) ∧ (xs.length : Int) < 2 ^ 30 := by
    have := List.length_pos_iff.mpr hne
    omega
  refine erb_ret ((eb_ixD hd (evd_var (i := 1) rfl rg) ((eb_call (i := 0) rfl (ea_cons (ev_lenLT hd (evd_var (i := 1) rfl rg)) ea_nil) (take_ex hlen)).imp fun d hd => ?_)).imp fun d hd => ?_)
  · obtain ⟨b, i, e, hb, h0, h1, rfl⟩ := hd
    have e : b = (xs.length : Int) := by
      injection e with e _
      injection e with e
      exact e.symm
    subst e
    exact ⟨i, rfl, h0, h1⟩
  · exact ⟨xs, hds, ⟨hne, hl⟩, hd⟩

theorem sc_law_pick : FnScope ["tin", "goods_so", "count_so", "pool_so", "found", "lap"] ["tin", "goods_so", "count_so"] (defScope (top 55)) := ⟨rfl, rfl, rfl, by decide +kernel, rfl, by decide +kernel, by decide +kernel⟩
theorem c__law_pick (B : Bn mg) (D : DefIn K mg "_law_pick" (top 55)) (c__law_take : C8.Cal P w K mg base 1 "_law_take" (SpD K 1 R_take) []) : C8.Cal P w K mg base 2 "_law_pick" (SpD K 64 R_pick) [] := by
  refine cal_draw (R := R_pick) (n := 64) D sc_law_pick (fun _ _ _ _ _ _ us hl => match us, hl with | [_, _, _], _ => rfl) (by
    rintro ds r ⟨_, _, rfl, _⟩; rfl) fun f cdv A outer s H E hr => ⟨_, (pss_cons (ps_par (i := 3) (j := 4) rfl sc_law_pick.nd rfl rfl (by decide) rfl rfl (pa_cons (pe_callTy (cr_listX : CallR _ _ (rListX K)) (by rfl) B.list PyProof.Rows.boot_list (pa_cons (pv 1) pa_nil)) (pa_cons (pe_lst pa_nil) pa_nil)) (by rfl))
    (pss_cons (ps_for PassesOwn.never rfl (pi_range1 (by rfl) B.range (pa_cons (pe_callB (cr_min2X rfl) (by rfl) B.min PyProof.Rows.boot_min (pa_cons (pe_callTy cr_intX (by rfl) B.int PyProof.Rows.boot_int (pa_cons (pv 2) pa_nil)) (pa_cons (pe_callB (cr_lenX : CallR _ _ (rLenX K)) (by rfl) B.len PySem.boot_len (pa_cons (pv 3) pa_nil)) pa_nil))) pa_nil)) (pg_name (i := 5) sc_law_pick.nd rfl (by first | exact Or.inl rfl | exact Or.inr rfl)) (pss_one (ps_expr (pe_bm PySem.F.plainAttrs_list PySem.F.slot_list_append PySem.F.type_list_append mt_append (pv 4) (pa_cons (pe_bm PySem.F.plainAttrs_list PySem.F.slot_list_pop PySem.F.type_list_pop mt_popAt (pv 3) (pa_cons (C8.pe_c c__law_take hr (by decide) (by rfl) (pa_cons (pv 0) (pa_cons (pe_callB (cr_lenX : CallR _ _ (rLenX K)) (by rfl) B.len PySem.boot_len (pa_cons (pv 3) pa_nil)) pa_nil))) pa_nil)) pa_nil)))))
    (pss_one (ps_ret (pv 4))))), ?_⟩
  rintro F tin vs ds ⟨r, xs, m, rfl, ⟨hm, hl⟩, _⟩ hv
  obtain ⟨v_goods, v_count, rfl, rg, rc⟩ := dq2 hv
  replace rc : Rp K F v_count m := rc
  intro c H k a ok ct bx D q
  cases (dp_mono a _ _ rg) with
  | @lst g gs _ hs hr =>
  refine ⟨.ref g, rfl, g, gs, rfl, .inl (.inl (rd_le hs)), fun P hP => ⟨Nat.zero_le _, fun E0 hE => ⟨_, _, rfl, ?_⟩⟩⟩
  have hPE : P ≠ E0 := fun e => by rw [← e, upd_same] at hE; cases hE
  have htP : tin ≠ P := fun e => by
    obtain ⟨_, _, _, h, _⟩ := bx
    rw [e, hP] at h
    cases h
  have htE : tin ≠ E0 := fun e => by
    obtain ⟨_, _, _, h, _⟩ := bx
    rw [e] at h
    rw [← e, upd_ne htP, e, h] at hE
    cases hE
  have s0 : Same H (upd H P (.lst gs)) := same_new hP
  have s1 : Same (upd H P (.lst gs)) (upd (upd H P (.lst gs)) E0 (.lst [])) := same_new hE
  have hP1 : upd (upd H P (.lst gs)) E0 (.lst []) P = some (.lst gs) := by rw [upd_ne hPE, upd_same]
  have hE1 : upd (upd H P (.lst gs)) E0 (.lst []) E0 = some (.lst []) := upd_same ..
  have hEH : H E0 = none := by rw [upd_ne (Ne.symm hPE)] at hE; exact hE
  have e2 := rp_int rc
  subst e2
  have hgl : gs.length = xs.length := DqAll.length hr
  have sx1 : Sx tin H (upd (upd H P (.lst gs)) E0 (.lst [])) := Sx.of (s0.trans s1)
  generalize hH1 : upd (upd H P (.lst gs)) E0 (.lst []) = H1 at hP1 hE1 sx1
  have c2t : more (more c P) E0 tin = true := by simp [more, ct]
  have c2P : more (more c P) E0 P = true := by simp [more]
  have c2E : more (more c P) E0 E0 = true := by simp [more]
  -- all that stood ahead of the two lists
  have fz : ∀ H2, Sx tin H H2 → Same (hid c H) (hid (more (more c P) E0) H2) := fun H2 s => fun b o e => by
    have hbP : b ≠ P := fun z => by
      rw [z] at e
      unfold hid at e
      split at e
      · cases e
      · rw [hP] at e; cases e
    have hbE : b ≠ E0 := fun z => by
      rw [z] at e
      unfold hid at e
      split at e
      · cases e
      · rw [hEH] at e; cases e
    have := s.hid ct b o e
    unfold hid at this ⊢
    unfold hid at e
    split at e
    · cases e
    · rename_i h
      rw [if_neg h] at this
      rw [if_neg (by simp [more, h, hbP, hbE])]
      exact this
  have ok2 : ∀ H2, Sx tin H H2 → Cel (H2 P) → Cel (H2 E0) → Okc (more (more c P) E0) H2 := fun H2 s h1 h2 => okc_more (okc_more (s.okc ok) h1) h2
  have r0 : DqAll K (hid (more (more c P) E0) H1) gs xs := dpAll_mono (fz _ sx1) _ _ hr
  show tSeq _ _ D _ H1
  refine ⟨.int m, rfl, .inl ⟨m, rfl, .ref P, rfl, P, gs, rfl, .inl (.inl (.inl hP1)), m, gs.length, rfl, _, rfl, by split <;> omega, by split <;> omega, ?_⟩⟩
  have hT : (if (gs.length : Int) < m then (gs.length : Int) else m).toNat = min m.toNat xs.length := by
    rw [hgl]
    split <;> omega
  rw [hT]
  have hT64 : min m.toNat xs.length ≤ 64 := by omega
  refine ⟨fun i mm σ H2 => mm = min m.toNat xs.length - i ∧ i ≤ min m.toNat xs.length ∧ ∃ o, σ = [some (.ref tin), some (.ref g), some (.int m), some (.ref P), some (.ref E0), o] ∧ Sx tin H H2 ∧ BoxAt H2 tin (k + (64 - i)) ∧ ∃ pool found xs' ys, H2 P = some (.lst pool) ∧ H2 E0 = some (.lst found) ∧ DqAll K (hid (more (more c P) E0) H2) pool xs' ∧ DqAll K (hid (more (more c P) E0) H2) found ys ∧ (ys ++ xs').Perm xs ∧ ys.length = i,
    ⟨_, rfl, Nat.zero_le _, none, rfl, sx1, ?_, gs, [], xs, [], hP1, hE1, r0, .nil, List.Perm.refl _, rfl⟩, ?_⟩
  · rw [← hH1]
    exact (bx.same s0).same s1
  rintro i mm σ H2 ⟨rfl, hi, o, rfl, sx2, bx2, pool, found, xs', ys, hp2, hf2, rp2, rf2, pm, hyl⟩
  have hpl := DqAll.length rp2
  have hfl := DqAll.length rf2
  have hxl : ys.length + xs'.length = xs.length := by rw [← List.length_append]; exact pm.length_eq
  by_cases hlt : i < min m.toNat xs.length
  · refine .inr ⟨hlt, fun σ' H' => ∃ o, σ' = [some (.ref tin), some (.ref g), some (.int m), some (.ref P), some (.ref E0), o] ∧ Sx tin H H' ∧ BoxAt H' tin (k + (64 - (i + 1))) ∧ ∃ pool found xs' ys, H' P = some (.lst pool) ∧ H' E0 = some (.lst found) ∧ DqAll K (hid (more (more c P) E0) H') pool xs' ∧ DqAll K (hid (more (more c P) E0) H') found ys ∧ (ys ++ xs').Perm xs ∧ ys.length = i + 1, fun σ' H' h => ⟨min m.toNat xs.length - (i + 1), by omega, rfl, by omega, h⟩, fun v H3 y => ?_⟩
    obtain ⟨rfl, rfl⟩ := y
    have okk := ok2 H3 sx2 (by rw [hp2]; exact cel_lst) (by rw [hf2]; exact cel_lst)
    have hlen : 1 ≤ (pool.length : Int) ∧ (pool.length : Int) < 2 ^ 30 := by omega
    refine ⟨.ref E0, rfl, .inl ⟨rfl, found, .inl (.inl hf2)⟩, .ref P, rfl, .inl ⟨rfl, pool, .inl (.inl hp2)⟩, .ref tin, rfl, .ref P, rfl, P, pool, rfl, .inl (.inl (.inl hp2)), tin, [.int pool.length], more (more c P) E0, [.int pool.length], k + (64 - (i + 1)), rfl, c2t, okk, bx2.mono (by omega), .cons (.int _) .nil, take_ex hlen, fun w H4 d hd s4 b4 r4 => ?_⟩
    obtain ⟨b, j, e, hb, h0, h1, rfl⟩ := hd
    have e : b = (pool.length : Int) := by
      injection e with e _
      injection e with e
      exact e.symm
    subst e
    cases r4
    have hp4 : H4 P = some (.lst pool) := s4.1 _ _ (Ne.symm htP) hp2
    have hf4 : H4 E0 = some (.lst found) := s4.1 _ _ (Ne.symm htE) hf2
    have hjl : j.toNat < pool.length := by omega
    have hjx : j.toNat < xs'.length := by omega
    obtain ⟨z, hz, rz⟩ := DqAll.get rp2 (List.getElem?_eq_getElem hjx)
    have hseq : seqIndex? j pool.length = some j.toNat := by
      have hn : ¬ j < 0 := by omega
      simp only [seqIndex?, if_neg hn, decide_eq_true h0, decide_eq_true h1, Bool.and_self, if_true]
    refine ⟨P, pool, j, j.toNat, z, rfl, rfl, hp4, by omega, by omega, hseq, hz, E0, found, z, rfl, rfl, ?_, ?_, ?_⟩
    · rw [upd_ne (Ne.symm hPE)]
      exact hf4
    · have : found.length ≤ 64 := by omega
      exact Nat.lt_of_le_of_lt this (by decide)
    · have m1 : ∀ {H5 : Hp}, Same (hid (more (more c P) E0) H5) (hid (more (more c P) E0) (upd (upd H5 P (.lst (pool.eraseIdx j.toNat))) E0 (.lst (found ++ [z])))) := fun {H5} => (hid_upd c2P).trans (hid_upd c2E)
      have m4 : Same (hid (more (more c P) E0) H3) (hid (more (more c P) E0) H4) := s4.hid c2t
      refine ⟨_, rfl, ((sx2.trans s4).updN hP).updN hEH, ?_, _, _, xs'.eraseIdx j.toNat, ys ++ [xs'[j.toNat]], by rw [upd_ne hPE, upd_same], upd_same .., dpAll_mono (m4.trans m1) _ _ (rp2.eraseIdx _), (dpAll_mono (m4.trans m1) _ _ rf2).append (.cons (dp_mono (m4.trans m1) _ _ rz) .nil), ?_, by rw [List.length_append, hyl]; rfl⟩
      · obtain ⟨x1, y1, z1, hb4, ob⟩ := b4
        exact ⟨x1, y1, z1, by rw [upd_ne htE, upd_ne htP]; exact hb4, ob⟩
      · rw [List.append_assoc]
        refine List.Perm.trans (List.Perm.append_left ys ?_) pm
        exact perm_erase hjx
  · have hi' : i = min m.toNat xs.length := by omega
    refine .inl ⟨by show _ ≤ i; omega, .ref E0, rfl, q _ H2 (.list ys) ⟨xs, m, rfl, ⟨hm, hl⟩, ys, xs', rfl, pm, by rw [hyl, hi']⟩ sx2 (bx2.mono (by omega)) (.lst (.inl ?_) (dpAll_mono ?_ _ _ rf2))⟩
    · have hcE : c E0 = false := ok.new hEH
      rw [hid_at hcE]
      exact hf2
    · exact Same.trans hid_less hid_less

end
end Sp

set_option Elab.async false
set_option linter.all false
set_option maxRecDepth 100000
set_option maxHeartbeats 4000000
namespace Sp
open PySem PySem.Spec PyProof.Rows L2
open PySem.W (Datum DatumOrd Tup)


theorem paired_map {α β γ : Type} {R : α → γ → Prop} (f : β → α) : ∀ {xs : List β} {ys : List γ}, Paired R (xs.map f) ys → Paired (fun x y => R (f x) y) xs ys
  | [], [], _ => .nil
  | x :: xs, y :: ys, .cons a b => .cons a (paired_map f b)
theorem perm_map_inv {α β : Type} {f : α → β} : ∀ {xs : List α} {ys : List β}, ys.Perm (xs.map f) → ∃ zs : List α, ys = zs.map f ∧ zs.Perm xs := fun {xs ys} h => by
  generalize e : xs.map f = l at h
  induction h generalizing xs with
  | nil =>
    have : xs = [] := List.map_eq_nil_iff.mp e
    subst this
    exact ⟨[], rfl, .refl _⟩
  | cons x p ih =>
    cases xs with
    | nil => cases e
    | cons y ys =>
      injection e with e1 e2
      obtain ⟨zs, rfl, hz⟩ := ih e2
      exact ⟨y :: zs, by rw [← e1]; rfl, .cons y hz⟩
  | swap x y l =>
    cases xs with
    | nil => cases e
    | cons a xs =>
      cases xs with
      | nil => cases e
      | cons b xs =>
        injection e with e1 e2
        injection e2 with e2 e3
        exact ⟨b :: a :: xs, by rw [← e1, ← e2, ← e3]; rfl, .swap a b xs⟩
  | trans p q ih1 ih2 =>
    obtain ⟨z2, rfl, h2⟩ := ih2 e
    obtain ⟨z1, rfl, h1⟩ := ih1 rfl
    exact ⟨z1, rfl, h1.trans h2⟩
/-- what a typed list gives to pick -/
theorem pick_typed {α : Type} [DecidableEq α] [Datum α] {xs : List α} {m : Int} {r : PyData} (h : R_pick [Datum.toD xs, .int m] r) : ∃ ys zs : List α, r = Datum.toD ys ∧ (ys ++ zs).Perm xs ∧ ys.length = min m.toNat xs.length := by
  obtain ⟨ds, m', e, _, ys, zs, rfl, pm, hl⟩ := h
  injection e with e1 e2
  injection e2 with e2 _
  injection e2 with e2
  have e1 : ds = xs.map Datum.toD := by
    have e1 : PyData.list (xs.map Datum.toD) = PyData.list ds := e1
    injection e1 with e1
    exact e1.symm
  subst e1 e2
  obtain ⟨ws, hw, pw⟩ := perm_map_inv pm
  have h1 : ys = (ws.take ys.length).map Datum.toD := by
    rw [List.map_take, ← hw, List.take_left' rfl]
  have h2 : ys.length ≤ ws.length := by
    have := congrArg List.length hw
    rw [List.length_append, List.length_map] at this
    omega
  refine ⟨ws.take ys.length, ws.drop ys.length, ?_, by rw [List.take_append_drop]; exact pw, by rw [List.length_take, Nat.min_eq_left h2, hl, List.length_map]⟩
  show PyData.list ys = PyData.list ((ws.take ys.length).map Datum.toD)
  rw [← h1]
theorem pick_ex {α : Type} [DecidableEq α] [Datum α] {xs : List α} {m : Int} (hm : 0 ≤ m) (hl : xs.length ≤ 64) : ∃ r, R_pick [Datum.toD xs, Datum.toD m] r :=
  ⟨.list ((xs.map Datum.toD).take m.toNat), xs.map Datum.toD, m, rfl, ⟨hm, by rw [List.length_map]; exact hl⟩, _, (xs.map Datum.toD).drop m.toNat, rfl, by rw [List.take_append_drop], by rw [List.length_take]⟩
def R_line : List PyData → PyData → Prop := fun ds r => ∃ m : Int, ds = [.int m] ∧ (0 ≤ m ∧ m ≤ 60) ∧ ∃ ks : List Int, ks.Perm (rangeL 0 m) ∧ r = Datum.toD (Tup.mk ks)
def R_short : List PyData → PyData → Prop := fun ds r => ∃ m : Int, ds = [.int m] ∧ (0 ≤ m ∧ m ≤ 60) ∧ ∃ xs : List Int, xs.length = m.toNat ∧ r = Datum.toD (Tup.mk xs)
section
variable {K : PySem.W.Frag} {F : Hp} {tin : Addr} {n : Nat} {σ : L2.St} {te : TE}
theorem eb_tup {Pv : List PyData → Prop} (h : EvB K F tin n te σ fun d => ∃ ds, d = .list ds ∧ Pv ds) : EvB K F tin n (tCB (rTupleX K) (tCons te tNil)) σ (fun d => ∃ ds, d = .tuple ds ∧ Pv ds) := fun c H k a ok ct b Q q =>
  h c H k a ok ct b _ fun v H1 d hd s1 b1 r1 => by
    obtain ⟨ds, rfl, p⟩ := hd
    cases r1 with
    | @lst g vs _ hs hr => exact ⟨g, vs, rfl, .inl ⟨.inl (rd_le hs), fun l nl => q _ _ _ ⟨ds, rfl, p⟩ (s1.trans (.of (same_new nl))) (b1.same (same_new nl)) (.tup (sqt_new (s1.okc ok) nl) (dpAll_mono (same_new nl).hid _ _ hr))⟩⟩
theorem toD_tup {α : Type} [DecidableEq α] [Datum α] (xs : List α) : Datum.toD (Tup.mk xs) = .tuple (xs.map Datum.toD) := rfl
theorem toD_lst {α : Type} [DecidableEq α] [Datum α] (xs : List α) : Datum.toD xs = .list (xs.map Datum.toD) := rfl
end

section
variable {P : Program} {w : World} {K : PySem.W.Frag} {mg : Str → Option Value} {base : Heap}
/-- a split of houses whose columns sum to the prices -/
structure SplOf (n : Nat) (hs : Hs) (cost : Row) (sp : Spl) : Prop where
  pos : 1 ≤ sp.1
  small : sp.1 ≤ 3
  len : sp.2.items.length = hs.items.length
  rows : ∀ r ∈ sp.2.items, r.items.length = n
  sums : (rowsL sp).map (fun t => t.items.sum) = cost.items.map fun x => sp.1 * x
def R_dsplit : List PyData → PyData → Prop := fun ds r => ∃ (hs : Hs) (cost : Row), ds = [Datum.toD hs, Datum.toD cost] ∧ ((1 ≤ hs.items.length ∧ hs.items.length ≤ 4) ∧ 1 ≤ cost.items.length ∧ cost.items.length ≤ 40) ∧ ∃ sp : Spl, r = Datum.toD sp ∧ SplOf cost.items.length hs cost sp
theorem short_rows : ∀ {m : Nat} {xs : List Int} {ds : List PyData}, Paired (fun (_ : Int) d => R_short [.int (m : Int)] d) xs ds → ∃ rows : List Row, ds = rows.map Datum.toD ∧ rows.length = xs.length ∧ ∀ r ∈ rows, r.items.length = m := fun {m xs ds} h => by
  induction h with
  | nil => exact ⟨[], rfl, rfl, by simp⟩
  | cons a b ih =>
    obtain ⟨rows, rfl, hl, hr⟩ := ih
    obtain ⟨m', e, _, ys, hy, rfl⟩ := a
    injection e with e _
    injection e with e
    subst e
    refine ⟨Tup.mk ys :: rows, rfl, by rw [List.length_cons, List.length_cons, hl], fun r hr' => ?_⟩
    rcases List.mem_cons.mp hr' with rfl | hr'
    · rw [hy]; simp
    · exact hr r hr'
def lastV (b : Int) (rows : List Row) (cost : Row) : Row := Tup.mk (((rangeL 0 cost.items.length).zip cost.items).map fun q => b * q.2 - (rows.map fun r => nth r.items q.1).sum)
theorem split_ok {hs : Hs} {cost : Row} {b : Int} {rows : List Row} (hb : 1 ≤ b ∧ b ≤ 3) (hl : rows.length + 1 = hs.items.length) (hr : ∀ r ∈ rows, r.items.length = cost.items.length) : SplOf cost.items.length hs cost (b, Tup.mk (rows ++ [lastV b rows cost])) := by
  have ll : (lastV b rows cost).items.length = cost.items.length := by
    unfold lastV
    rw [List.length_map, List.length_zip, rangeL_len]
    omega
  have hr2 : ∀ r ∈ rows ++ [lastV b rows cost], r.items.length = cost.items.length := fun r h => by
    rcases List.mem_append.mp h with h | h
    · exact hr r h
    · have e : r = lastV b rows cost := by simpa using h
      rw [e, ll]
  refine ⟨hb.1, hb.2, by rw [← hl]; simp, hr2, ?_⟩
  apply List.ext_getElem?
  intro i
  have hcl : (rowsL (b, Tup.mk (rows ++ [lastV b rows cost]))).length = cost.items.length := by
    unfold rowsL colsL
    rw [List.length_map, List.length_range]
    cases rows with
    | nil => exact ll
    | cons r rs => exact hr r (by simp)
  by_cases h : i < cost.items.length
  · have e1 : (rowsL (b, Tup.mk (rows ++ [lastV b rows cost])))[i]? = some (Tup.mk ((rows ++ [lastV b rows cost]).filterMap fun r => r.items[i]?)) := by
      unfold rowsL colsL at hcl ⊢
      rw [List.length_map, List.length_range] at hcl
      rw [List.getElem?_map, List.getElem?_range (by omega)]
      simp only [Option.map_some, List.filterMap_map]
      rfl
    rw [List.getElem?_map, e1, List.getElem?_map, List.getElem?_eq_getElem h]
    simp only [Option.map_some, Option.some.injEq]
    rw [List.filterMap_append, List.sum_append]
    have e2 : (lastV b rows cost).items[i]? = some (b * cost.items[i] - (rows.map fun r => nth r.items (i : Int)).sum) := by
      unfold lastV
      rw [List.getElem?_map]
      have h2 : i < ((cost.items.length : Int) - 0).toNat := by omega
      have e3 : ((rangeL 0 cost.items.length).zip cost.items)[i]? = some ((i : Int), cost.items[i]) := by
        rw [List.getElem?_zip_eq_some]
        exact ⟨by rw [rangeL_get h2, Int.zero_add], List.getElem?_eq_getElem h⟩
      rw [e3]
      rfl
    have e4 : (rows.filterMap fun r => r.items[i]?) = rows.map fun r => nth r.items (i : Int) := by
      clear e1 e2 hcl hr2 hl ll
      induction rows with
      | nil => rfl
      | cons r rs ih =>
        have hri : i < r.items.length := by rw [hr r (by simp)]; exact h
        rw [List.filterMap_cons_some (f := fun r : Row => r.items[i]?) (List.getElem?_eq_getElem hri), List.map_cons, ih fun q hq => hr q (by simp [hq]), nth_nat hri]
    rw [e4]
    simp only [List.filterMap_cons, e2, List.filterMap_nil, List.sum_cons, List.sum_nil]
    omega
  · rw [List.getElem?_eq_none (by rw [List.length_map, hcl]; omega), List.getElem?_eq_none (by rw [List.length_map]; omega)]
end
end Sp

set_option Elab.async false
set_option linter.all false
set_option maxRecDepth 100000
set_option maxHeartbeats 4000000
namespace Sp
open PySem PySem.Spec PyProof.Rows L2
open PySem.W (Datum DatumOrd Tup)

def R_parts : List PyData → PyData → Prop := fun ds r => ∃ m q : Int, ds = [.int m, .int q] ∧ ((0 ≤ m ∧ m ≤ 60) ∧ 1 ≤ q ∧ q ≤ 5) ∧ ∃ ps : List (Tup Int), (ps.length : Int) ≤ q ∧ r = Datum.toD (Tup.mk ps)
theorem map_rp {K : PySem.W.Frag} {F : Hp} : ∀ {as : List Addr}, (∀ p ∈ as, ∃ ns : List Int, F p = some (.lst (ns.map V.int))) → ∃ nss : List (List Int), Rps K F (as.map V.ref) nss ∧ nss.length = as.length
  | [], _ => ⟨[], Rps.nil, rfl⟩
  | p :: as, h => by
    obtain ⟨ns, hn⟩ := h p (by simp)
    obtain ⟨nss, hr, hl⟩ := map_rp (as := as) fun q hq => h q (by simp [hq])
    exact ⟨ns :: nss, Rps.cons (rp_mkL (.inl hn) rps_ints) hr, by rw [List.length_cons, List.length_cons, hl]⟩
section
variable {P : Program} {w : World} {K : PySem.W.Frag} {mg : Str → Option Value} {base : Heap}
theorem sc_law_drawn_parts : FnScope ["tin", "many_so", "most_so", "parts_so", "k", "at_so", "own"] ["tin", "many_so", "most_so"] (defScope (top 63)) := ⟨rfl, rfl, rfl, by decide +kernel, rfl, by decide +kernel, by decide +kernel⟩
theorem c__law_drawn_parts (B : Bn mg) (D : DefIn K mg "_law_drawn_parts" (top 63)) (c__law_pick : C8.Cal P w K mg base 2 "_law_pick" (SpD K 64 R_pick) []) (c__law_take : C8.Cal P w K mg base 1 "_law_take" (SpD K 1 R_take) []) : C8.Cal P w K mg base 3 "_law_drawn_parts" (SpD K 200 R_parts) [] := by
  refine cal_draw (R := R_parts) (n := 200) D sc_law_drawn_parts (fun _ _ _ _ _ _ us hl => match us, hl with | [_, _, _], _ => rfl) (by
    rintro ds r ⟨_, _, rfl, _⟩; rfl) fun f cdv A outer s H E hr => ⟨_, (pss_cons (ps_setLc (i := 3) rfl sc_law_drawn_parts.nd rfl rfl (by rfl) (pi_range1 (by rfl) B.range (pa_cons (pv 2) pa_nil)) (blkOk_by (own := [("k", 4)]) (by kernel_rfl)) (fun _ _ _ _ _ => (pg_name (i := 4) sc_law_drawn_parts.nd rfl (by first | exact Or.inl rfl | exact Or.inr rfl))) (fun _ _ _ _ _ => pts_nil) (fun _ _ _ _ _ => (pe_lst pa_nil)))
    (pss_cons (ps_for PassesOwn.never rfl (pi_seqX (C8.pe_c c__law_pick hr (by decide) (by rfl) (pa_cons (pv 0) (pa_cons (pe_listRg rfl (by rfl) B.list (prg_1 (by rfl) B.range (pv 1))) (pa_cons (pv 1) pa_nil)))) : PI _ _ _ (iSeqX K _)) (pg_name (i := 4) sc_law_drawn_parts.nd rfl (by first | exact Or.inl rfl | exact Or.inr rfl)) (pss_cons (ps_set (i := 5) sc_law_drawn_parts.nd rfl (by first | exact Or.inl rfl | exact Or.inr rfl) (C8.pe_c c__law_take hr (by decide) (by rfl) (pa_cons (pv 0) (pa_cons (pe_op op_add (pv 2) pe_int) pa_nil))))
    (pss_one (ps_if (pt_cmpR op_lt (pv 5) (pv 2) (nomark _)) (pss_one (ps_expr (pe_bm PySem.F.plainAttrs_list PySem.F.slot_list_append PySem.F.type_list_append mt_append (pe_ix (ix_seq : IxR _ (rIx K)) (pv 3) (pv 5) (fun _ _ => rfl)) (pa_cons (pv 4) pa_nil)))) pss_nil))))
    (pss_one (ps_ret (pe_callTy (cr_tupleX : CallR _ _ (rTupleX K)) (by rfl) B.tuple PyProof.Rows.boot_tuple (pa_cons (pe_callB (cr_sortX hr.units : CallR _ _ (rSortX K)) (by rfl) B.sorted PyProof.Rows.boot_sorted (pa_cons (pe_lc rfl sc_law_drawn_parts.nd (pi_seqX (pv 3) : PI _ _ _ (iSeqX K _)) (blkOk_by (own := [("own", 6)]) (by kernel_rfl)) (fun _ _ _ _ _ => (pg_name (i := 6) sc_law_drawn_parts.nd rfl (by first | exact Or.inl rfl | exact Or.inr rfl))) (fun _ _ _ _ _ => (pts_one (pt_cmpR (op_neX hr.units : OpR _ _ (rNeX K)) (pv 6) (pe_lst pa_nil) (nomark _)))) (fun _ _ _ _ _ => (pe_callTy (cr_tupleX : CallR _ _ (rTupleX K)) (by rfl) B.tuple PyProof.Rows.boot_tuple (pa_cons (pe_callB (cr_sortX hr.units : CallR _ _ (rSortX K)) (by rfl) B.sorted PyProof.Rows.boot_sorted (pa_cons (pv 6) pa_nil)) pa_nil)))) pa_nil)) pa_nil)))))), ?_⟩
  rintro F tin vs ds ⟨r, m, q, rfl, ⟨⟨hm0, hm1⟩, hq0, hq1⟩, _⟩ hv
  obtain ⟨v_m, v_q, rfl, rm, rq⟩ := dq2 hv
  replace rm : Rp K F v_m m := rm
  replace rq : Rp K F v_q q := rq
  intro c H k a ok ct bx D qq
  refine seq_set ?_
  refine lc_fresh (K := K) (xs := rangeL 0 q) (F := F) (c := c) (H := H) ?hi ?hg a ok fun L H1 as s1 hL hL1 hal has => ?_
  case hi => exact ei_rng1 (ev_var (i := 2) rfl rq) (by omega) (by omega)
  case hg => exact fun F' v x => lcb_name rfl
  have bx1 := bx.same s1
  have htL : tin ≠ L := fun e => by
    obtain ⟨_, _, _, h, _⟩ := bx
    rw [e, hL] at h
    cases h
  have hta : ∀ p ∈ as, p ≠ tin := fun p hp e => by
    obtain ⟨_, _, _, h, _⟩ := bx
    rw [← e, (has p hp).1] at h
    cases h
  have hasl : (as.length : Int) = q := by rw [hal, rangeL_len]; omega
  have ok1 := ok.mono s1
  have okL : ∀ {H2 : Hp}, Okc c H2 → (∀ p ∈ as, Cel (H2 p)) → Okc (moreL c as) H2 := fun {H2} o h b hb => by
    unfold moreL at hb
    rw [Bool.or_eq_true] at hb
    rcases hb with hb | hb
    · exact o b hb
    · obtain ⟨x, hx, e⟩ := List.any_eq_true.mp hb
      have e : x = b := by simpa using e
      rw [← e]
      exact h x hx
  have ctL : moreL c as tin = true := moreL_c ct
  have okL1 : Okc (moreL c as) H1 := okL ok1 fun p hp => by rw [(has p hp).2.1]; exact cel_lst
  -- what stood ahead
  have fz : ∀ H2, Sx tin H H2 → Same (hid c H) (hid (moreL c as) H2) := fun H2 s => fun b o e => by
    have hb : b ∉ as := fun z => by
      unfold hid at e
      split at e
      · cases e
      · rw [(has b z).1] at e; cases e
    have h1 := s.hid ct b o e
    unfold hid at h1 ⊢
    unfold hid at e
    split at e
    · cases e
    · rename_i h
      rw [if_neg h] at h1
      rw [if_neg (by rw [moreL_not (by simpa using h) hb]; exact Bool.false_ne_true)]
      exact h1
  have a1 : Same F (hid (moreL c as) H1) := a.trans (fz H1 (.of s1))
  have rm1 := rm.mono a1
  have hrl : (rangeL 0 m).length ≤ 64 := by rw [rangeL_len]; omega
  -- the loop's list
  refine (eb_call (i := 0) rfl (ea_cons (ev_rangeL1 (ev_var (i := 1) rfl rm1) (by omega)) (ea_cons (ev_var (i := 1) rfl rm1) ea_nil)) (pick_ex hm0 hrl) : EvB K (hid (moreL c as) H1) tin 64 _ _ _) (moreL c as) H1 (k + 136) (Same.refl _) okL1 ctL bx1 _ fun v H2 d hd s2 b2 r2 => ?_
  obtain ⟨ks, zs, rfl, pm, hkl⟩ := pick_typed (xs := rangeL 0 m) (m := m) hd
  obtain ⟨y, vs, rfl, hy, hyr⟩ := rp_lst (show Rp K _ v ks from r2)
  have hk60 : ks.length ≤ 60 := by rw [hkl, rangeL_len]; omega
  refine ⟨y, vs, rfl, .inl ⟨.inl (rd_le hy), fun _ => ?_⟩⟩
  have src := src_list hy hyr
  have s02 : Sx tin H H2 := (Sx.of s1).trans s2
  have hL2 : H2 L = some (.lst (as.map V.ref)) := s2.1 _ _ (Ne.symm htL) hL1
  have has2 : ∀ p ∈ as, H2 p = some (.lst []) := fun p hp => s2.1 _ _ (hta p hp) (has p hp).2.1
  refine ⟨fun i mm σ' H3 => mm = ks.length - i ∧ i ≤ ks.length ∧ ∃ o1 o2 o3, σ' = [some (.ref tin), some v_m, some v_q, some (.ref L), o1, o2, o3] ∧ Sx tin H H3 ∧ Same (hid (moreL c as) H2) (hid (moreL c as) H3) ∧ H3 L = some (.lst (as.map V.ref)) ∧ BoxAt H3 tin (k + (60 - i)) ∧ ∀ p ∈ as, ∃ ns : List Int, H3 p = some (.lst (ns.map V.int)) ∧ ns.length ≤ i,
    ⟨ks.length, by simp, Nat.zero_le _, none, none, none, rfl, s02, Same.refl _, hL2, b2.mono (by omega), fun p hp => ⟨[], has2 p hp, Nat.zero_le _⟩⟩, ?_⟩
  rintro i mm σ' H3 ⟨rfl, hi, o1, o2, o3, rfl, s3, f3, hL3, b3, has3⟩
  have okL3 : Okc (moreL c as) H3 := okL (s3.okc ok) fun p hp => by
    obtain ⟨ns, e, _⟩ := has3 p hp
    rw [e]
    exact cel_lst
  obtain ⟨jg, js, jy⟩ := src (moreL c as) H3 f3 okL3
  by_cases hlt : i < ks.length
  · refine .inr ⟨jg i hlt, fun σ' H4 => ∃ o1 o2 o3, σ' = [some (.ref tin), some v_m, some v_q, some (.ref L), o1, o2, o3] ∧ Sx tin H H4 ∧ Same (hid (moreL c as) H2) (hid (moreL c as) H4) ∧ H4 L = some (.lst (as.map V.ref)) ∧ BoxAt H4 tin (k + (60 - (i + 1))) ∧ ∀ p ∈ as, ∃ ns : List Int, H4 p = some (.lst (ns.map V.int)) ∧ ns.length ≤ i + 1, fun σ' H4 h => ⟨ks.length - (i + 1), by omega, rfl, by omega, h⟩, fun v4 H4 y4 => ?_⟩
    obtain ⟨s4, r4⟩ := jy i v4 H4 _ (List.getElem?_eq_getElem hlt) y4
    have ev4 := rp_int r4
    subst ev4
    have a4 : Same F (hid (moreL c as) H4) := a.trans (fz H4 (s3.trans (.of s4)))
    have rq4 := rq.mono a4
    have okL4 := okL3.mono s4
    refine (eb_call (i := 0) rfl (ea_cons (ev_i0 (ev_var (i := 2) rfl rq4) ev_int) ea_nil) (take_ex (by omega)) : EvB K (hid (moreL c as) H4) tin 1 _ _ _) (moreL c as) H4 (k + (60 - (i + 1))) (Same.refl _) okL4 ctL ((b3.same s4).mono (by omega)) _ fun w H5 d5 hd5 s5 b5 r5 => ?_
    obtain ⟨b, j, e, hb, h0, h1, rfl⟩ := hd5
    have e : b = q + 1 := by
      injection e with e _
      have : PyData.int (q + 1) = PyData.int b := e
      injection this with this
      exact this.symm
    subst e
    have rw5 : Rp K (hid (moreL c as) H5) w j := r5
    have rq5 := rq4.mono (s5.hid ctL)
    refine (et_test (ev_b0 (ev_var (i := 5) rfl rw5) (ev_var (i := 2) rfl rq5)) : EvT (hid (moreL c as) H5) _ _ _) (moreL c as) H5 (Same.refl _) (s5.okc okL4) _ fun H6 s6 => ?_
    have s06 : Sx tin H H6 := (s3.trans (.of s4)).trans (s5.trans (.of s6))
    have f6 : Same (hid (moreL c as) H2) (hid (moreL c as) H6) := (f3.trans s4.hid).trans ((s5.hid ctL).trans s6.hid)
    have hL6 : H6 L = some (.lst (as.map V.ref)) := s6 _ _ (s5.1 _ _ (Ne.symm htL) (s4 _ _ hL3))
    have has6 : ∀ p ∈ as, ∃ ns : List Int, H6 p = some (.lst (ns.map V.int)) ∧ ns.length ≤ i := fun p hp => by
      obtain ⟨ns, e, hn⟩ := has3 p hp
      exact ⟨ns, s6 _ _ (s5.1 _ _ (hta p hp) (s4 _ _ e)), hn⟩
    have b6 := b5.same s6
    have ew := rp_int rw5
    subst ew
    by_cases hj : j < q
    · rw [if_pos (decide_eq_true hj)]
      have hja : j.toNat < as.length := by omega
      have hat : atI (as.map V.ref) j = some (.ref as[j.toNat]) := by
        have h2 := atI_nat (xs := as.map V.ref) (j := j.toNat) (v := V.ref as[j.toNat]) (by rw [List.getElem?_map, List.getElem?_eq_getElem hja]; rfl)
        rwa [Int.toNat_of_nonneg h0] at h2
      obtain ⟨ns, hp6, hn6⟩ := has6 _ (List.getElem_mem hja)
      have hn64 : ns.length < sizeLine := Nat.lt_of_le_of_lt (show ns.length ≤ 60 by omega) (by decide)
      refine ⟨.ref L, rfl, .int j, rfl, .inl ⟨L, as.map V.ref, j, _, rfl, rfl, .inl (.inl hL6), hat, .inl ⟨rfl, _, .inl (.inl hp6)⟩, .int ks[i], rfl, as[j.toNat], ns.map V.int, _, rfl, rfl, hp6, by rw [List.length_map]; exact hn64, ?_⟩⟩
      have hpin : as[j.toNat] ∈ as := List.getElem_mem hja
      refine ⟨_, _, _, rfl, s06.updN (has _ hpin).1, f6.trans (hid_upd (moreL_in hpin)), ?_, ?_, fun p hp => ?_⟩
      · rw [upd_ne (fun z => (has _ hpin).2.2 z.symm)]
        exact hL6
      · obtain ⟨x1, y1, z1, hb4, ob⟩ := b6
        exact ⟨x1, y1, z1, by rw [upd_ne (fun z => hta _ hpin z.symm)]; exact hb4, ob⟩
      · by_cases z : p = as[j.toNat]
        · refine ⟨ns ++ [ks[i]], by rw [z, upd_same, List.map_append]; rfl, by rw [List.length_append]; show ns.length + 1 ≤ i + 1; omega⟩
        · rw [upd_ne z]
          obtain ⟨ms, e, hm⟩ := has6 p hp
          exact ⟨ms, e, by omega⟩
    · rw [if_neg (fun z => hj (of_decide_eq_true z))]
      exact ⟨_, _, _, rfl, s06, f6, hL6, b6, fun p hp => by
        obtain ⟨ms, e, hm⟩ := has6 p hp
        exact ⟨ms, e, by omega⟩⟩
  · have e : i = ks.length := by omega
    subst e
    refine .inl ⟨js, ?_⟩
    have okc3 := s3.okc ok
    have hcL : c L = false := ok.new hL
    obtain ⟨nss, hnr, hnl⟩ := map_rp (K := K) (F := hid c H3) (as := as) fun p hp => by
      obtain ⟨ns, e, _⟩ := has3 p hp
      exact ⟨ns, by rw [hid_at (ok.new (has p hp).1)]; exact e⟩
    have rp : Rp K (hid c H3) (.ref L) nss := rp_mkL (.inl (by rw [hid_at hcL]; exact hL3)) hnr
    dsimp only
    refine run_er (c := c) (Pv := fun d => ∃ ps : List (Tup Int), (ps.length : Int) ≤ q ∧ d = Datum.toD (Tup.mk ps)) ⟨_, ⟨_, ?len, rfl⟩, er_retT (ev_tupL (ev_sort (ev_lc (ei_list (ev_var (i := 3) rfl rp)) (fun F1 v1 x1 s1 hx1 r1 => lcb_name ⟨rfl, (et_test (ev_ne (ev_var (i := 6) rfl r1) (ev_dL es_nil))), fun hp1 => (ev_tupL (ev_sort (ev_var (i := 6) rfl r1) ?_))⟩)) ?_))⟩ okc3 fun v H' d hd s r => ?_
    case len =>
      rw [List.length_mergeSort, List.length_map]
      have := List.length_filter_le (fun x1 : List Int => decide (x1 ≠ [])) nss
      omega
    · exact PySem.W.Sortable.others fun b => ⟨(fun e => nomatch e), (fun xs e => nomatch e)⟩
    · refine .inl fun d hd => ?_
      obtain ⟨tt, ht, rfl⟩ := List.mem_map.mp hd
      obtain ⟨ns, hns, rfl⟩ := List.mem_map.mp ht
      have hne : ns ≠ [] := of_decide_eq_true (List.mem_filter.mp hns).2
      have hl2 : (ns.mergeSort fun a b => !DatumOrd.lt b a).length = ns.length := List.length_mergeSort _
      cases hm : (ns.mergeSort fun a b => !DatumOrd.lt b a) with
      | nil =>
        rw [hm] at hl2
        exact absurd (List.length_eq_zero_iff.mp hl2.symm) hne
      | cons z zs => exact ⟨_, _, rfl⟩
    · obtain ⟨ps, hpl, rfl⟩ := hd
      exact qq v H' _ ⟨m, q, rfl, ⟨⟨hm0, hm1⟩, hq0, hq1⟩, ps, hpl, rfl⟩ (s3.trans (.of s)) ((b3.same s).mono (by omega)) r

end
end Sp

set_option Elab.async false
set_option linter.all false
set_option maxRecDepth 100000
set_option maxHeartbeats 4000000
namespace Sp
open PySem PySem.Spec PyProof.Rows L2
open PySem.W (Datum DatumOrd Tup)

structure FOk (m : Nat) (fs : List Row) : Prop where
  ne : fs ≠ []
  len : fs.length ≤ 60
  plans : ∀ p ∈ fs, GPlan m p
theorem FOk.set {m : Nat} {fs : List Row} (h : FOk m fs) (hm : 1 ≤ m) : SetOk fs := ⟨by have := h.len; omega, m, 2, hm, fun x hx => ⟨(h.plans x hx).len, bits_bd (h.plans x hx).bits⟩⟩
def everyOk (m : Fin 6) : Bool := (everyV (m.val : Int)).all fun p => decide (p.items.length = m.val) && p.items.all fun x => decide (x = 0 ∨ x = 1)
theorem every_all : ∀ m : Fin 6, everyOk m = true := by decide +kernel
theorem every_len0 : ∀ m : Fin 6, (everyV (m.val : Int)).length = 2 ^ m.val := by decide +kernel
theorem every_sum0 : ∀ m : Fin 6, ∀ j : Fin 6, j.val ≤ m.val → ((everyV (m.val : Int)).any fun p => decide (p.items.sum = (j.val : Int))) = true := by decide +kernel
theorem every_asc0 : ∀ m : Fin 6, (everyV (m.val : Int)).Pairwise tlt := by decide +kernel
theorem every_plan {m : Nat} (hm : m ≤ 5) {p : Row} (hp : p ∈ everyV (m : Int)) : GPlan m p := by
  have h := List.all_eq_true.mp (every_all ⟨m, by omega⟩) p hp
  rw [Bool.and_eq_true] at h
  refine ⟨of_decide_eq_true h.1, fun x hx => of_decide_eq_true (List.all_eq_true.mp h.2 x hx)⟩
theorem every_len {m : Nat} (hm : m ≤ 5) : (everyV (m : Int)).length = 2 ^ m := every_len0 ⟨m, by omega⟩
theorem every_asc {m : Nat} (hm : m ≤ 5) : (everyV (m : Int)).Pairwise tlt := every_asc0 ⟨m, by omega⟩
theorem every_sum {m j : Nat} (hm : m ≤ 5) (hj : j ≤ m) : ∃ p ∈ everyV (m : Int), p.items.sum = (j : Int) := by
  obtain ⟨p, hp, h⟩ := List.any_eq_true.mp (every_sum0 ⟨m, by omega⟩ ⟨j, by omega⟩ hj)
  exact ⟨p, hp, of_decide_eq_true h⟩
theorem every_le {m : Nat} (hm : m ≤ 5) : (everyV (m : Int)).length ≤ 32 ∧ everyV (m : Int) ≠ [] := by
  have h := every_len hm
  have h2 : 2 ^ m ≤ 2 ^ 5 := Nat.pow_le_pow_right (by decide) hm
  have h3 : 0 < 2 ^ m := Nat.pow_pos (by decide)
  refine ⟨by omega, fun e => ?_⟩
  rw [e, List.length_nil] at h
  omega
theorem sset_len : ∀ xs : List Row, (sset xs).length ≤ xs.length := fun xs => by
  have ins : ∀ (x : Row) (ys : List Row), (insS x ys).length ≤ ys.length + 1 := fun x ys => by
    induction ys with
    | nil => exact Nat.le_refl _
    | cons y ys ih =>
      unfold insS
      split
      · simp
      · split
        · simp
        · simp only [List.length_cons]
          omega
  induction xs with
  | nil => exact Nat.le_refl _
  | cons x xs ih =>
    have := ins x (sset xs)
    show (insS x (sset xs)).length ≤ xs.length + 1
    omega
theorem sset_ne {xs : List Row} (h : xs ≠ []) : sset xs ≠ [] := fun e => by
  cases xs with
  | nil => exact h rfl
  | cons x xs =>
    have : x ∈ sset (x :: xs) := mem_sset.mpr (by simp)
    rw [e] at this
    cases this
def R_lot : List PyData → PyData → Prop := fun ds r => ∃ (m : Nat) (q : Int), ds = [.int (m : Int), .int q] ∧ ((1 ≤ m ∧ m ≤ 5) ∧ 1 ≤ q ∧ q ≤ 60) ∧ ∃ l : Lot, r = Datum.toD l ∧ GLot m l ∧ (l.items.length : Int) ≤ q
theorem lot_of {m : Nat} {q : Int} {ys : List Row} (hm : 1 ≤ m) (h : FOk m ys) (hl : (ys.length : Int) ≤ q) : GLot m (Tup.mk (sset ys)) ∧ ((sset ys).length : Int) ≤ q := by
  have hs := sset_len ys
  have h60 := h.len
  exact ⟨⟨sset_ne h.ne, fun p hp => h.plans p (mem_sset.mp hp), asc_sset ys, by show (sset ys).length ≤ 1000; omega⟩, by omega⟩
theorem lot_ex {m : Nat} {q : Int} (hm : 1 ≤ m ∧ m ≤ 5) (hq : 1 ≤ q ∧ q ≤ 60) : ∃ r, R_lot [.int (m : Int), .int q] r := by
  have hne := (every_le hm.2).2
  have h : FOk m [(everyV (m : Int)).head hne] := ⟨by simp, by simp, fun p hp => by
    have e : p = (everyV (m : Int)).head hne := by simpa using hp
    rw [e]
    exact every_plan hm.2 (List.head_mem hne)⟩
  have := lot_of (q := q) hm.1 h (by show (1 : Int) ≤ q; exact hq.1)
  exact ⟨_, m, q, rfl, ⟨hm, hq⟩, _, rfl, this.1, this.2⟩
theorem pick_ok {m : Nat} {xs ys zs : List Row} {j : Int} (h : FOk m xs) (hj : 1 ≤ j) (pm : (ys ++ zs).Perm xs) (hl : ys.length = min j.toNat xs.length) : FOk m ys := by
  have h1 := List.length_pos_iff.mpr h.ne
  have h2 := h.len
  refine ⟨List.length_pos_iff.mp (by omega), by omega, fun p hp => h.plans p (pm.mem_iff.mp (List.mem_append_left _ hp))⟩
theorem every_ok {m : Nat} (hm : m ≤ 5) : FOk m (everyV (m : Int)) := ⟨(every_le hm).2, by have := (every_le hm).1; omega, fun p hp => every_plan hm hp⟩
theorem box_fok {m : Nat} {p : Row} {ps : List (Tup Int)} (hm : 1 ≤ m) (hp : GPlan m p) (hk : ps.length ≤ 5) : FOk m (sset (boxF p ps)) ∧ (sset (boxF p ps)).length ≤ 32 := by
  have h0 : ∀ q ∈ [p], Bits q ∧ q.items.length = p.items.length := fun q hq => by
    have e : q = p := by simpa using hq
    rw [e]
    exact ⟨hp.bits, rfl⟩
  obtain ⟨a, b⟩ := box_ok hp.bits ps _ h0
  have h2 : 2 ^ ps.length ≤ 2 ^ 5 := Nat.pow_le_pow_right (by decide) hk
  have h3 : 0 < 2 ^ ps.length := Nat.pow_pos (by decide)
  have hl : (boxF p ps).length = 2 ^ ps.length := by
    unfold boxF
    rw [b]
    simp
  have hs := sset_len (boxF p ps)
  exact ⟨⟨sset_ne (List.length_pos_iff.mp (by omega)), by omega, fun q hq => by
    obtain ⟨h4, h5⟩ := a q (mem_sset.mp hq)
    exact ⟨by rw [h5, hp.len], h4⟩⟩, by omega⟩

section
variable {P : Program} {w : World} {K : PySem.W.Frag} {mg : Str → Option Value} {base : Heap}
theorem sc_law_lot : FnScope ["tin", "many_so", "most_so", "kind_so", "all_so", "found", "parts_so", "turn_so", "many", "places_so", "own"] ["tin", "many_so", "most_so"] (defScope (top 64)) := ⟨rfl, rfl, rfl, by decide +kernel, rfl, by decide +kernel, by decide +kernel⟩
theorem c__law_lot (B : Bn mg) (D : DefIn K mg "_law_lot" (top 64)) (c__law_box_by : C8.Cal P w K mg base 2 "_law_box_by" (SpG K R_law_box_by) []) (c__law_drawn_parts : C8.Cal P w K mg base 3 "_law_drawn_parts" (SpD K 200 R_parts) []) (c__law_every : C8.Cal P w K mg base 2 "_law_every" (SpG K R_law_every) []) (c__law_of : C8.Cal P w K mg base 2 "_law_of" (SpD K 1 R_of) []) (c__law_pick : C8.Cal P w K mg base 2 "_law_pick" (SpD K 64 R_pick) []) (c__law_take : C8.Cal P w K mg base 1 "_law_take" (SpD K 1 R_take) []) (c__law_turn : C8.Cal P w K mg base 1 "_law_turn" (SpG K R_law_turn2) []) : C8.Cal P w K mg base 4 "_law_lot" (SpD K 1000 R_lot) [] := by
  refine cal_draw (R := R_lot) (n := 1000) D sc_law_lot (fun _ _ _ _ _ _ us hl => match us, hl with | [_, _, _], _ => rfl) (by
    rintro ds r ⟨_, _, rfl, _⟩; rfl) fun f cdv A outer s H E hr => ⟨_, (pss_cons (ps_par (i := 3) (j := 4) rfl sc_law_lot.nd rfl rfl (by decide) rfl rfl (pa_cons (C8.pe_c c__law_take hr (by decide) (by rfl) (pa_cons (pv 0) (pa_cons pe_int pa_nil))) (pa_cons (C8.pe_c c__law_every hr (by decide) (by rfl) (pa_cons (pv 1) pa_nil)) pa_nil)) (by rfl))
    (pss_cons (ps_if (pt_cmpR op_lt (pv 3) pe_int (nomark _)) (pss_one (ps_set (i := 5) sc_law_lot.nd rfl (by first | exact Or.inl rfl | exact Or.inr rfl) (C8.pe_c c__law_pick hr (by decide) (by rfl) (pa_cons (pv 0) (pa_cons (pv 4) (pa_cons (pe_op op_add pe_int (C8.pe_c c__law_take hr (by decide) (by rfl) (pa_cons (pv 0) (pa_cons (pe_callB (cr_min2X rfl) (by rfl) B.min PyProof.Rows.boot_min (pa_cons (pv 2) (pa_cons (pe_callB (cr_lenX : CallR _ _ (rLenX K)) (by rfl) B.len PySem.boot_len (pa_cons (pv 4) pa_nil)) pa_nil))) pa_nil)))) pa_nil)))))) (pss_one (ps_if (pt_cmpR op_lt (pv 3) pe_int (nomark _)) (pss_cons (ps_set (i := 6) sc_law_lot.nd rfl (by first | exact Or.inl rfl | exact Or.inr rfl) (C8.pe_c c__law_drawn_parts hr (by decide) (by rfl) (pa_cons (pv 0) (pa_cons (pv 1) (pa_cons (pe_op op_add pe_int (C8.pe_c c__law_take hr (by decide) (by rfl) (pa_cons (pv 0) (pa_cons pe_int pa_nil)))) pa_nil)))))
    (pss_cons (ps_set (i := 5) sc_law_lot.nd rfl (by first | exact Or.inl rfl | exact Or.inr rfl) (pe_callTy (cr_listX : CallR _ _ (rListX K)) (by rfl) B.list PyProof.Rows.boot_list (pa_cons (C8.pe_c c__law_box_by hr (by decide) (by rfl) (pa_cons (C8.pe_c c__law_of hr (by decide) (by rfl) (pa_cons (pv 0) (pa_cons (pv 4) pa_nil))) (pa_cons (pv 6) pa_nil))) pa_nil)))
    (pss_cons (ps_set (i := 7) sc_law_lot.nd rfl (by first | exact Or.inl rfl | exact Or.inr rfl) (C8.pe_c c__law_take hr (by decide) (by rfl) (pa_cons (pv 0) (pa_cons pe_int pa_nil))))
    (pss_cons (ps_if (PW.pt (pw_and (pt_cmpR (op_eqX hr.units : OpR _ _ (rEqX K)) (pv 7) pe_int (nomark _)) (pw_and1 (pt_cmpR op_gt (pe_callB (cr_lenX : CallR _ _ (rLenX K)) (by rfl) B.len PySem.boot_len (pa_cons (pv 5) pa_nil)) pe_int (nomark _))))) (pss_one (ps_expr (pe_bm PySem.F.plainAttrs_list PySem.F.slot_list_pop PySem.F.type_list_pop mt_popAt (pv 5) (pa_cons (C8.pe_c c__law_take hr (by decide) (by rfl) (pa_cons (pv 0) (pa_cons (pe_callB (cr_lenX : CallR _ _ (rLenX K)) (by rfl) B.len PySem.boot_len (pa_cons (pv 5) pa_nil)) pa_nil))) pa_nil)))) pss_nil)
    (pss_one (ps_if (pt_cmpR (op_eqX hr.units : OpR _ _ (rEqX K)) (pv 7) pe_int (nomark _)) (pss_one (ps_expr (pe_bm PySem.F.plainAttrs_list PySem.F.slot_list_append PySem.F.type_list_append mt_append (pv 5) (pa_cons (C8.pe_c c__law_of hr (by decide) (by rfl) (pa_cons (pv 0) (pa_cons (pv 4) pa_nil))) pa_nil)))) pss_nil)))))) (pss_cons (ps_set (i := 8) sc_law_lot.nd rfl (by first | exact Or.inl rfl | exact Or.inr rfl) (C8.pe_c c__law_take hr (by decide) (by rfl) (pa_cons (pv 0) (pa_cons (pe_op op_add (pv 1) pe_int) pa_nil))))
    (pss_cons (ps_setLc (i := 5) rfl sc_law_lot.nd rfl rfl (by rfl) (pi_seqX (pv 4) : PI _ _ _ (iSeqX K _)) (blkOk_by (own := [("own", 10)]) (by kernel_rfl)) (fun _ _ _ _ _ => (pg_name (i := 10) sc_law_lot.nd rfl (by first | exact Or.inl rfl | exact Or.inr rfl))) (fun _ _ _ _ _ => (pts_one (pt_cmpR (op_eqX hr.units : OpR _ _ (rEqX K)) (pe_callB (cr_sumX rfl : CallR _ _ (rSumX K)) (by rfl) B.sum PyProof.Rows.boot_sum (pa_cons (pv 10) pa_nil)) (pv 8) (nomark _)))) (fun _ _ _ _ _ => (pv 10)))
    (pss_cons (ps_set (i := 9) sc_law_lot.nd rfl (by first | exact Or.inl rfl | exact Or.inr rfl) (C8.pe_c c__law_pick hr (by decide) (by rfl) (pa_cons (pv 0) (pa_cons (pe_listRg rfl (by rfl) B.list (prg_1 (by rfl) B.range (pv 1))) (pa_cons (C8.pe_c c__law_take hr (by decide) (by rfl) (pa_cons (pv 0) (pa_cons (pe_op op_add (pv 1) pe_int) pa_nil))) pa_nil)))))
    (pss_one (ps_set (i := 5) sc_law_lot.nd rfl (by first | exact Or.inl rfl | exact Or.inr rfl) (pe_op op_catL (pe_lc rfl sc_law_lot.nd (pi_seqX (pv 5) : PI _ _ _ (iSeqX K _)) (blkOk_by (own := [("own", 10)]) (by kernel_rfl)) (fun _ _ _ _ _ => (pg_name (i := 10) sc_law_lot.nd rfl (by first | exact Or.inl rfl | exact Or.inr rfl))) (fun _ _ _ _ _ => pts_nil) (fun _ _ _ _ _ => (C8.pe_c c__law_turn hr (by decide) (by rfl) (pa_cons (pv 10) (pa_cons (pv 9) pa_nil))))) (C8.pe_c c__law_pick hr (by decide) (by rfl) (pa_cons (pv 0) (pa_cons (pv 4) (pa_cons (C8.pe_c c__law_take hr (by decide) (by rfl) (pa_cons (pv 0) (pa_cons pe_int pa_nil))) pa_nil)))))))))))))
    (pss_one (ps_ret (pe_callTy (cr_tupleX : CallR _ _ (rTupleX K)) (by rfl) B.tuple PyProof.Rows.boot_tuple (pa_cons (pe_callB (cr_sortedT rfl : CallR _ _ (rSortedT K P w)) (by rfl) B.sorted PyProof.Rows.boot_sorted (pa_cons (pe_callTy (cr_setOfT rfl hr.units : CallR _ _ (rSetOfT K P w)) (by rfl) B.set PyProof.Rows.boot_set (pa_cons (C8.pe_c c__law_pick hr (by decide) (by rfl) (pa_cons (pv 0) (pa_cons (pe_callB (cr_sortedT rfl : CallR _ _ (rSortedT K P w)) (by rfl) B.sorted PyProof.Rows.boot_sorted (pa_cons (pe_callTy (cr_setOfT rfl hr.units : CallR _ _ (rSetOfT K P w)) (by rfl) B.set PyProof.Rows.boot_set (pa_cons (pv 5) pa_nil)) pa_nil)) (pa_cons (pv 2) pa_nil)))) pa_nil)) pa_nil)) pa_nil)))))), ?_⟩
  rintro F tin vs ds ⟨r, m, q, rfl, ⟨⟨hm0, hm1⟩, hq0, hq1⟩, _⟩ hv
  obtain ⟨v_m, v_q, rfl, rm, rq⟩ := dq2 hv
  replace rm : Rp K F v_m (m : Int) := rm
  replace rq : Rp K F v_q q := rq
  have hall := every_ok hm1
  have hale := every_le hm1
  have hal : (everyV (m : Int)).length ≤ 64 := by omega
  have ex1 : ∃ r, R_of [Datum.toD (everyV (m : Int))] r := of_ex hale.2 (by omega)
  refine (erb_par (m := 900) (n1 := 1) (n2 := 1) (Pa := fun d => ∃ i : Int, d = .int i ∧ 0 ≤ i ∧ i < 6) (Pb := fun d => d = Datum.toD (everyV (m : Int))) ((eb_call (i := 0) rfl (ea_cons ev_int ea_nil) (take_ex (by decide))).imp fun d hd => ?_) (fun F' s => eb_pure (ev_call (ea_cons (ev_var (i := 1) rfl (rm.mono s)) ea_nil) (r1_mk ⟨by omega, by omega⟩))) fun F1 vk va d e s1 hk he rk ra => ?_).more (by decide)
  · obtain ⟨b, i, e, hb, h0, h1, rfl⟩ := hd
    injection e with e _
    have e : (6 : Int) = b := by injection e
    exact ⟨i, rfl, h0, by omega⟩
  obtain ⟨kd, rfl, hk0, hk1⟩ := hk
  subst he
  replace rk : Rp K F1 vk kd := rk
  replace ra : Rp K F1 va (everyV (m : Int)) := ra
  have rm1 := rm.mono s1
  have rq1 := rq.mono s1
  have hmin : ∀ z : Int, (if z < q then z else q) = min z q := fun z => by omega
  refine (erb_seqN (n1 := 600) (n := 200) (M := fun F' σ' => ∃ vf o6 o7 o8 o9 o10 fs, σ' = [some (.ref tin), some v_m, some v_q, some vk, some va, some vf, o6, o7, o8, o9, o10] ∧ Rp K F' vf fs ∧ FOk m fs) (enb_if (et_test (ev_b0 (ev_var (i := 3) rfl rk) ev_int)) (fun _ => ?brA) (fun _ => enb_if (et_test (ev_b0 (ev_var (i := 3) rfl rk) ev_int)) (fun _ => ?brB) (fun _ => ?brC))) fun F2 σ2 s2 hN => ?tail).more (by decide)
  case tail =>
    obtain ⟨vf, o6, o7, o8, o9, o10, fs, rfl, rf, hf⟩ := hN
    have rq2 := rq1.mono s2
    have hs1 := sset_len fs
    have hs2 := hf.len
    have hso : FOk m (sset fs) := ⟨sset_ne hf.ne, by omega, fun p hp => hf.plans p (mem_sset.mp hp)⟩
    obtain ⟨hsl, dd, bb, hd1, hbb⟩ := hf.set hm0
    refine (erb_ret ((eb_lift (n := 64) (fun te => tCB (rTupleX K) (tCons (tSset K P w te) tNil)) (fun te H Q => rfl) (Pw := fun d => ∃ ys, FOk m ys ∧ (ys.length : Int) ≤ q ∧ d = Datum.toD (Tup.mk (sset ys))) (eb_call (i := 0) rfl (ea_cons (ev_sset (d := dd) (B := bb) (ev_var (i := 5) rfl rf) hsl hd1 hbb) (ea_cons (ev_var (i := 2) rfl rq2) ea_nil)) (pick_ex (by omega) (by omega))) fun F3 v d s3 hd r3 => ?_).imp fun d hd => ?_)).more (by decide)
    · obtain ⟨ys, zs, rfl, pm, hyl⟩ := pick_typed (xs := sset fs) (m := q) hd
      have hy := pick_ok hso hq0 pm hyl
      obtain ⟨hl4, d4, b4, hd4, hb4⟩ := hy.set hm0
      exact ⟨_, ⟨ys, hy, by omega, rfl⟩, ev_tupL (ev_sset (d := d4) (B := b4) (ev_val (show Rp K F3 v ys from r3)) hl4 hd4 hb4)⟩
    · obtain ⟨ys, hy, hyl, rfl⟩ := hd
      have := lot_of hm0 hy hyl
      exact ⟨m, q, rfl, ⟨⟨hm0, hm1⟩, hq0, hq1⟩, _, rfl, this.1, this.2⟩
  case brA =>
    have hlen : 1 ≤ min q ((everyV (m : Int)).length : Int) ∧ min q ((everyV (m : Int)).length : Int) < 2 ^ 30 := by
      have := List.length_pos_iff.mpr hale.2
      omega
    refine (enb_setB (n := 64 + 1) ((eb_callR (n := 64) (n1 := 1) (i := 0) (Pb := fun d => ∃ j : Int, d = .int j ∧ 1 ≤ j) rfl (ev_var (i := 4) rfl ra) ((eb_i0r (Pv := fun j => 0 ≤ j) ev_int ((eb_call (i := 0) rfl (ea_cons (Ev.cast (ev_min2 (ev_var (i := 2) rfl rq1) (ev_lenL (ev_var (i := 4) rfl ra))) (y := min q ((everyV (m : Int)).length : Int)) (by split <;> omega)) ea_nil) (take_ex hlen)).imp fun d hd => ?_)).imp fun d hd => ?_) (fun d hd => ?_))) fun F2 vf d s2 hd r2 => ?_).more (by decide)
    · obtain ⟨b, i, e, hb, h0, h1, rfl⟩ := hd
      exact ⟨i, rfl, h0⟩
    · obtain ⟨j, hj, rfl⟩ := hd
      exact ⟨1 + j, rfl, by omega⟩
    · obtain ⟨j, rfl, hj⟩ := hd
      exact pick_ex (by omega) hal
    · obtain ⟨_, ⟨j, rfl, hj⟩, hd⟩ := hd
      obtain ⟨ys, zs, rfl, pm, hyl⟩ := pick_typed (xs := everyV (m : Int)) (m := j) hd
      exact ⟨vf, _, _, _, _, _, ys, rfl, r2, pick_ok hall hj pm hyl⟩
  case brC =>
    refine (enb_seq (n1 := 1) (n := 300) (M := fun F' σ' => ∃ vj o5 o6 o7 o9 o10 j, σ' = [some (.ref tin), some v_m, some v_q, some vk, some va, o5, o6, o7, some vj, o9, o10] ∧ Rp K F' vj j ∧ 0 ≤ j ∧ j ≤ (m : Int)) (enb_setB (eb_call (i := 0) rfl (ea_cons (ev_i0 (ev_var (i := 1) rfl rm1) ev_int) ea_nil) (take_ex (by omega))) fun F2 vj d s2 hd r2 => ?_) fun F2 σ2 s2 hN => ?_).more (by decide)
    · obtain ⟨b, j, e, hb, h0, h1, rfl⟩ := hd
      injection e with e _
      have e : (m : Int) + 1 = b := by injection e
      exact ⟨vj, _, _, _, _, _, j, rfl, r2, h0, by omega⟩
    obtain ⟨vj, o5, o6, o7, o9, o10, j, rfl, rj, hj0, hj1⟩ := hN
    have ra2 := ra.mono s2
    have rm2 := rm1.mono s2
    refine (enb_seq (n1 := 0) (n := 300) (M := fun F' σ' => ∃ vf o6 o7 o9 o10 fs, σ' = [some (.ref tin), some v_m, some v_q, some vk, some va, some vf, o6, o7, some vj, o9, o10] ∧ Rp K F' vf fs ∧ Same F2 F' ∧ FOk m fs ∧ fs.length ≤ 32) (enb_pure (en_set (ev_lc (f := fun x => x) (p := fun x : Row => decide (x.items.sum = j)) (ei_list (ev_var (i := 4) rfl ra2)) (fun F3 v3 x3 s3 hx3 r3 => lcb_name ⟨rfl, et_test (ev_eq (ev_sumT (ev_var (i := 10) rfl r3)) (ev_var (i := 8) rfl (rj.mono s3))), fun _ => ev_var (i := 10) rfl r3⟩)) fun F3 v3 s3 r3 => ?_)) fun F3 σ3 s3 hN => ?_).more (by decide)
    · have hl := List.length_filter_le (fun x : Row => decide (x.items.sum = j)) (everyV (m : Int))
      refine ⟨v3, _, _, _, _, _, rfl, r3, s3, ⟨?_, by rw [List.length_map]; omega, fun p hp => ?_⟩, by rw [List.length_map]; omega⟩
      · obtain ⟨p, hp, hs⟩ := every_sum hm1 (j := j.toNat) (by omega)
        refine List.ne_nil_of_mem (a := p) ?_
        rw [List.map_id']
        exact List.mem_filter.mpr ⟨hp, decide_eq_true (by rw [hs]; omega)⟩
      · rw [List.map_id'] at hp
        exact every_plan hm1 (List.mem_filter.mp hp).1
    obtain ⟨vf, o6, o7, o9, o10, fs, rfl, rf, s23, hf, hf32⟩ := hN
    have rm3 := rm2.mono s23
    have hrl : (rangeL 0 (m : Int)).length ≤ 64 := by rw [rangeL_len]; omega
    refine (enb_seq (n1 := 65) (n := 100) (M := fun F' σ' => ∃ vp o6 o7 o10 ps, σ' = [some (.ref tin), some v_m, some v_q, some vk, some va, some vf, o6, o7, some vj, some vp, o10] ∧ Rp K F' vp (ps : List Int) ∧ Same F3 F') (enb_setB (n := 64 + 1) (eb_callR (n := 64) (n1 := 1) (i := 0) (Pb := fun d => ∃ j : Int, d = .int j ∧ 0 ≤ j) rfl (ev_rangeL1 (ev_var (i := 1) rfl rm3) (by omega)) ((eb_call (i := 0) rfl (ea_cons (ev_i0 (ev_var (i := 1) rfl rm3) ev_int) ea_nil) (take_ex (by omega))).imp fun d hd => ?_) (fun d hd => ?_)) fun F4 vp d s4 hd r4 => ?_) fun F4 σ4 s4 hN => ?_).more (by decide)
    · obtain ⟨b, i, e, hb, h0, h1, rfl⟩ := hd
      exact ⟨i, rfl, h0⟩
    · obtain ⟨i, rfl, h0⟩ := hd
      exact pick_ex h0 hrl
    · obtain ⟨_, ⟨i, rfl, h0⟩, hd⟩ := hd
      obtain ⟨ys, zs, rfl, pm, hyl⟩ := pick_typed (xs := rangeL 0 (m : Int)) (m := i) hd
      exact ⟨vp, _, _, _, ys, rfl, r4, s4⟩
    obtain ⟨vp, o6, o7, o10, ps, rfl, rp, s34⟩ := hN
    have rf4 := rf.mono s34
    have ra4 := ra2.mono (s23.trans s34)
    refine (enb_setB (n := 64 + 1) (eb_catR (Pv := fun ys : List Row => (∀ p ∈ ys, GPlan m p) ∧ ys.length ≤ 1) (ev_lc1 (f := fun x : Row => turnV x ps) (ei_list (ev_var (i := 5) rfl rf4)) (fun F5 v5 x5 s5 hx5 r5 => lcb_name ⟨rfl, ev_call (ea_cons (ev_var (i := 10) rfl r5) (ea_cons (ev_var (i := 9) rfl (rp.mono s5)) ea_nil)) (.inl (r2_mk True.intro))⟩)) ((eb_callR (n := 64) (n1 := 1) (i := 0) (Pb := fun d => ∃ j : Int, d = .int j ∧ 0 ≤ j ∧ j ≤ 1) rfl (ev_var (i := 4) rfl ra4) ((eb_call (i := 0) rfl (ea_cons ev_int ea_nil) (take_ex (by decide))).imp fun d hd => ?_) (fun d hd => ?_)).imp fun d hd => ?_)) fun F5 v5 d s5 hd r5 => ?_).more (by decide)
    · obtain ⟨b, i, e, hb, h0, h1, rfl⟩ := hd
      injection e with e _
      have e : (2 : Int) = b := by injection e
      exact ⟨i, rfl, h0, by omega⟩
    · obtain ⟨i, rfl, h0, h1⟩ := hd
      exact pick_ex h0 hal
    · obtain ⟨_, ⟨i, rfl, h0, h1⟩, hd⟩ := hd
      obtain ⟨ys, zs, rfl, pm, hyl⟩ := pick_typed (xs := everyV (m : Int)) (m := i) hd
      refine ⟨ys, rfl, ⟨fun p hp => every_plan hm1 (pm.mem_iff.mp (List.mem_append_left _ hp)), by omega⟩, ?_⟩
      rw [List.length_map]
      exact size1000 (by omega)
    · obtain ⟨ys, ⟨hy, hyl⟩, rfl⟩ := hd
      refine ⟨v5, _, _, _, _, _, _, rfl, r5, ⟨fun e => ?_, by rw [List.length_append, List.length_map]; omega, fun p hp => ?_⟩⟩
      · have := (List.append_eq_nil_iff.mp e).1
        exact hf.ne (List.map_eq_nil_iff.mp this)
      · rcases List.mem_append.mp hp with hp | hp
        · obtain ⟨p0, hp0, rfl⟩ := List.mem_map.mp hp
          exact ⟨by rw [turn_len, (hf.plans p0 hp0).len], turn_bits (hf.plans p0 hp0).bits _⟩
        · exact hy p hp
  case brB =>
    refine (enb_seq (n1 := 200 + 1) (n := 300) (M := fun F' σ' => ∃ vp ps o5 o7 o8 o9 o10, σ' = [some (.ref tin), some v_m, some v_q, some vk, some va, o5, some vp, o7, o8, o9, o10] ∧ Rp K F' vp (Tup.mk ps : Tup (Tup Int)) ∧ ps.length ≤ 5 ∧ Same F1 F') (enb_setB (n := 200 + 1) (eb_callR (n := 200) (n1 := 1) (i := 0) (Pb := fun d => ∃ j : Int, d = .int j ∧ 1 ≤ j ∧ j ≤ 3) rfl (ev_var (i := 1) rfl rm1) ((eb_i0r (Pv := fun j => 0 ≤ j ∧ j < 3) ev_int ((eb_call (i := 0) rfl (ea_cons ev_int ea_nil) (take_ex (by decide))).imp fun d hd => ?_)).imp fun d hd => ?_) (fun d hd => ?_)) fun F2 v d s2 hd r2 => ?_) fun F2 σ2 s2 hN => ?_).more (by decide)
    · obtain ⟨b, i, e, hb, h0, h1, rfl⟩ := hd
      injection e with e _
      have e : (3 : Int) = b := by injection e
      exact ⟨i, rfl, h0, by omega⟩
    · obtain ⟨j, hj, rfl⟩ := hd
      exact ⟨1 + j, rfl, by omega, by omega⟩
    · obtain ⟨j, rfl, hj0, hj1⟩ := hd
      exact ⟨_, (m : Int), j, rfl, ⟨⟨by omega, by omega⟩, hj0, by omega⟩, [], by simp; omega, rfl⟩
    · obtain ⟨_, ⟨j, rfl, hj0, hj1⟩, hd⟩ := hd
      obtain ⟨m', q', e, _, ps, hl, rfl⟩ := hd
      injection e with e e2
      injection e2 with e2 _
      have e2 : j = q' := by injection e2
      exact ⟨v, ps, _, _, _, _, _, rfl, r2, by omega, s2⟩
    obtain ⟨vp, ps, o5, o7, o8, o9, o10, rfl, rp, hps, s12⟩ := hN
    have ra2 := ra.mono s12
    refine (enb_cell (i := 5) (n := 1) (m := 20) (Pv := fun xs : List Row => FOk m xs ∧ xs.length ≤ 32) (fresh_listT (Pd := fun d => ∃ xs : List Row, d = Datum.toD (Tup.mk xs) ∧ FOk m xs ∧ xs.length ≤ 32) (eb_lift (n := 1) (fun te => tCall (SpG K R_law_box_by) [] E0 (tCons te (tCons (tVar 6) tNil))) (fun te H Q => rfl) (eb_call (i := 0) rfl (ea_cons (ev_var (i := 4) rfl ra2) ea_nil) ex1) fun F3 v d s3 hd r3 => ?_) fun d hd => hd) fun F3 D xs s3 hxs => ?_).more (by decide)
    · obtain ⟨p, hp, rfl⟩ := of_un (xs := everyV (m : Int)) hd
      have hpl := every_plan hm1 hp
      have hb := box_fok hm0 hpl hps
      refine ⟨_, ⟨sset (boxF p ps), rfl, hb.1, hb.2⟩, ev_call (ea_cons (ev_val (show Rp K F3 v p from r3)) (ea_cons (ev_var (i := 6) rfl (rp.mono s3)) ea_nil)) (r2_mk ⟨hpl.bits, by rw [hpl.len]; exact hm0, hps⟩)⟩
    obtain ⟨hxs, hx32⟩ := hxs
    have ra3 := ra2.mono s3
    refine (emb_seq (n1 := 1) (n := 10) (M := fun F' σ' ys => ys = xs ∧ Same F3 F' ∧ ∃ vt o8 o9 o10 t, σ' = [some (.ref tin), some v_m, some v_q, some vk, some va, some (.ref D), some vp, some vt, o8, o9, o10] ∧ Rp K F' vt (t : Int)) (emb_of (enb_setB (eb_call (i := 0) rfl (ea_cons ev_int ea_nil) (take_ex (by decide))) fun F4 vt d s4 hd r4 => ?_)) fun F4 σ4 ys s4 hN => ?_).more (by decide)
    · obtain ⟨b, i, e, hb, h0, h1, rfl⟩ := hd
      exact ⟨rfl, s4, vt, _, _, _, i, rfl, r4⟩
    obtain ⟨rfl, _, vt, o8', o9', o10', t, rfl, rt⟩ := hN
    refine (emb_seq (n1 := 1) (n := 5) (M := fun F' σ' zs => σ' = [some (.ref tin), some v_m, some v_q, some vk, some va, some (.ref D), some vp, some vt, o8', o9', o10'] ∧ Same F4 F' ∧ FOk m zs ∧ zs.length ≤ 32) (emb_if (fun F5 s5 r5 => et_and (et_val (ev_eq (ev_var (i := 7) rfl (rt.mono s5)) ev_int)) fun _ => et_test (ev_b0 (ev_lenL (ev_var (i := 5) rfl r5)) ev_int)) (fun hb => emb_pop (i := 5) rfl (Pv := fun d => ∃ j : Int, d = .int j ∧ 0 ≤ j ∧ j < ys.length) (fun F5 s5 r5 => (eb_call (i := 0) rfl (ea_cons (ev_lenL (ev_var (i := 5) rfl r5)) ea_nil) (take_ex ?_)).imp fun d hd => ?_) (fun d hd => hd) (by omega) fun F5 d s5 hd j hj => ?_) (fun _ => emb_next fun F5 s5 => ⟨rfl, s5, hxs, hx32⟩)) fun F5 σ5 zs s5 hN => ?_).more (by decide)
    · have := List.length_pos_iff.mpr hxs.ne
      omega
    · obtain ⟨b, i, e, hb, h0, h1, rfl⟩ := hd
      injection e with e _
      have e : (ys.length : Int) = b := by injection e
      exact ⟨i, rfl, h0, by omega⟩
    · rw [Bool.and_eq_true] at hb
      have h2 : 1 < ys.length := by
        have := of_decide_eq_true hb.2
        omega
      obtain ⟨j', rfl, j0, j1⟩ := hd
      have e : j' = (j : Int) := by injection hj
      have hel : (ys.eraseIdx j).length = ys.length - 1 := by rw [List.length_eraseIdx]; rw [if_pos (by omega)]
      refine ⟨rfl, s5, ⟨List.length_pos_iff.mp (by omega), by omega, fun p hp => hxs.plans p (List.mem_of_mem_eraseIdx hp)⟩, by omega⟩
    obtain ⟨rfl, s45, hzs, hz32⟩ := hN
    refine (emb_if (n := 1) (fun F6 s6 r6 => et_test (ev_eq (ev_var (i := 7) rfl ((rt.mono s45).mono s6)) ev_int)) (fun hb => emb_append (i := 5) rfl (eb_call (i := 0) rfl (ea_cons (ev_var (i := 4) rfl (ra3.mono (s4.trans s45))) ea_nil) ex1) (by unfold sizeLine; omega) fun F6 d s6 hd => ?_) (fun _ => emb_next fun F6 s6 F7 s7 r7 => ⟨_, _, _, _, _, _, _, rfl, r7, hzs⟩)).more (by decide)
    obtain ⟨p, hp, rfl⟩ := of_un (xs := everyV (m : Int)) hd
    refine ⟨p, rfl, fun F7 s7 r7 => ⟨_, _, _, _, _, _, _, rfl, r7, by simp, by rw [List.length_append]; simp; omega, fun x hx => ?_⟩⟩
    rcases List.mem_append.mp hx with hx | hx
    · exact hzs.plans x hx
    · have : x = p := by simpa using hx
      rw [this]
      exact every_plan hm1 hp

end
end Sp

set_option Elab.async false
set_option linter.all false
set_option maxRecDepth 100000
set_option maxHeartbeats 4000000
namespace Sp
open PySem PySem.Spec PyProof.Rows L2
open PySem.W (Datum DatumOrd Tup)

theorem msort_tlt {xs : List Row} (h : xs.Nodup) : (xs.mergeSort fun a b => !DatumOrd.lt b a).Pairwise tlt := by
  have h1 : (xs.mergeSort fun a b => !DatumOrd.lt b a).Pairwise fun a b => (!DatumOrd.lt b a) = true := List.pairwise_mergeSort (fun a b c hab hbc => by
    have hab : DatumOrd.lt b a = false := by simpa using hab
    have hab : PySem.W.listLt b.items a.items = false := hab
    have hbc : DatumOrd.lt c b = false := by simpa using hbc
    have hbc : PySem.W.listLt c.items b.items = false := hbc
    show (!PySem.W.listLt c.items a.items) = true
    cases e : PySem.W.listLt c.items a.items with
    | false => rfl
    | true =>
      by_cases h1 : b.items = a.items
      · rw [h1, e] at hbc
        cases hbc
      · have := ll_trans e (ll_tri h1 hab)
        rw [this] at hbc
        cases hbc) (fun a b => by
    show (!PySem.W.listLt b.items a.items || !PySem.W.listLt a.items b.items) = true
    cases e : PySem.W.listLt b.items a.items with
    | false => rfl
    | true =>
      cases f : PySem.W.listLt a.items b.items with
      | false => rfl
      | true =>
        have := ll_trans e f
        rw [ll_irr] at this
        cases this) xs
  have h2 : (xs.mergeSort fun a b => !DatumOrd.lt b a).Nodup := (List.mergeSort_perm xs _).nodup_iff.mpr h
  refine (List.Pairwise.and h1 h2).imp fun {a b} h => ?_
  have h3 : DatumOrd.lt b a = false := by simpa using h.1
  have h3 : PySem.W.listLt b.items a.items = false := h3
  exact ll_tri (fun e => h.2 (tup_ext e.symm)) h3
theorem turn_get {p : Row} {ks : List Int} {i : Nat} (h : i < p.items.length) : (turnV p ks).items[i]? = some (if decide ((i : Int) ∈ ks) = true then 1 - p.items[i] else p.items[i]) := by
  unfold turnV
  rw [List.getElem?_map]
  have e : ((rangeL 0 p.items.length).zip p.items)[i]? = some (((i : Nat) : Int), p.items[i]) := by
    rw [List.getElem?_zip_eq_some]
    refine ⟨?_, List.getElem?_eq_getElem h⟩
    rw [rangeL_get (by omega), Int.zero_add]
  rw [e]
  rfl
theorem turn_inj {p q : Row} {ks : List Int} (hl : p.items.length = q.items.length) (h : turnV p ks = turnV q ks) : p = q := by
  refine tup_ext (List.ext_getElem hl fun i h1 h2 => ?_)
  have a := turn_get (ks := ks) h1
  rw [h, turn_get h2] at a
  have a := Option.some.inj a
  split at a <;> omega
theorem bits_sum {xs : List Int} (h : ∀ x ∈ xs, x = 0 ∨ x = 1) : 0 ≤ xs.sum ∧ xs.sum ≤ (xs.length : Int) := by
  induction xs with
  | nil => simp
  | cons x xs ih =>
    have h1 := ih fun y hy => h y (by simp [hy])
    rw [List.sum_cons, List.length_cons]
    rcases h x (by simp) with e | e <;> omega
theorem cut_take {α : Type} {xs : List α} {n : Int} (h : 0 ≤ n) : cutL xs none (some n) = xs.take n.toNat := by
  unfold cutL
  rw [HT.sIx_none, Nat.sub_zero, List.drop_zero]
  show xs.take (if n < 0 then _ else min n.toNat xs.length) = _
  rw [if_neg (by omega)]
  by_cases h2 : n.toNat ≤ xs.length
  · rw [Nat.min_eq_left h2]
  · rw [Nat.min_eq_right (by omega), List.take_length, List.take_of_length_le (by omega)]
theorem eb_ixT {K : PySem.W.Frag} {F : Hp} {tin : Addr} {n : Nat} {σ : L2.St} {ta tb : TE} {α : Type} [DecidableEq α] [Datum α] {xs : Tup α} (ha : Ev K F ta σ xs) (hb : EvB K F tin n tb σ (fun d => ∃ i : Int, d = .int i ∧ 0 ≤ i ∧ i < (xs.items.length : Int))) : EvB K F tin n (tOp (rIx K) ta tb) σ (fun d => ∃ x ∈ xs.items, d = Datum.toD x) := fun c H k a ok ct b Q q =>
  ha c H a ok _ fun v H1 s1 r1 => hb c H1 k (a.trans s1.hid) (ok.mono s1) ct (b.same s1) _ fun w H2 d hd s2 b2 r2 => by
    obtain ⟨i, e, h0, h1⟩ := hd
    subst e
    obtain ⟨p, vs, rfl, hs, hr⟩ := rp_tup (r1.mono (s2.hid ct))
    have hlt : i.toNat < xs.items.length := by omega
    have ei : i = ((i.toNat : Nat) : Int) := (Int.toNat_of_nonneg h0).symm
    have hx : atI xs.items i = some xs.items[i.toNat] := by
      have := atI_nat (xs := xs.items) (List.getElem?_eq_getElem hlt)
      rwa [← ei] at this
    obtain ⟨z, hz, rz⟩ := atI_rps hr hx
    exact .inr (.inl ⟨p, vs, i, z, rfl, rp_int r2, sqt_le hs, hz, q _ H2 _ ⟨_, List.getElem_mem hlt, rfl⟩ ((Sx.of s1).trans s2) b2 rz⟩)
structure LotOk (m : Nat) (l : Lot) : Prop where
  lot : GLot m l
  len : l.items.length ≤ 60
theorem lot_un {m : Nat} {q : Int} {r : PyData} (h : R_lot [.int (m : Int), .int q] r) (hq : q ≤ 60) : ∃ l : Lot, r = Datum.toD l ∧ LotOk m l ∧ (l.items.length : Int) ≤ q := by
  obtain ⟨m', q', e, _, l, rfl, hl, hq'⟩ := h
  injection e with e1 e2
  injection e1 with e1
  injection e2 with e2 _
  injection e2 with e2
  have e3 : m = m' := by omega
  subst e3 e2
  exact ⟨l, rfl, ⟨hl, by omega⟩, hq'⟩
theorem glot_len {m : Nat} {l : Lot} (h : GLot m l) : 0 < l.items.length := List.length_pos_iff.mpr h.ne
theorem glot0 {m : Nat} {l : Lot} (h : GLot m l) : GPlan m (nth l.items 0) := h.plans _ (mem_nth0 h.ne)
theorem cut_lot {m : Nat} {l l0 : Lot} {a b : Int} (hl : LotOk m l) (h0 : LotOk m l0) (hm : 1 ≤ m) (ha : 1 ≤ a ∧ a ≤ 30) (hb : 0 ≤ b ∧ b ≤ 30) :
    SetOk (cutL l.items none (some a) ++ cutL l0.items none (some b)) ∧ LotOk m (Tup.mk (sset (cutL l.items none (some a) ++ cutL l0.items none (some b)))) := by
  rw [cut_take (by omega), cut_take hb.1]
  have hp : ∀ p ∈ l.items.take a.toNat ++ l0.items.take b.toNat, GPlan m p := fun p hp => by
    rcases List.mem_append.mp hp with hp | hp
    · exact hl.lot.plans p (List.mem_of_mem_take hp)
    · exact h0.lot.plans p (List.mem_of_mem_take hp)
  have h1 := glot_len hl.lot
  have hlen : (l.items.take a.toNat ++ l0.items.take b.toNat).length ≤ 60 := by
    rw [List.length_append, List.length_take, List.length_take]
    omega
  have hne : l.items.take a.toNat ++ l0.items.take b.toNat ≠ [] := List.length_pos_iff.mp (by
    rw [List.length_append, List.length_take]
    omega)
  have hs := sset_len (l.items.take a.toNat ++ l0.items.take b.toNat)
  have hf : FOk m (l.items.take a.toNat ++ l0.items.take b.toNat) := ⟨hne, hlen, hp⟩
  exact ⟨hf.set hm, ⟨sset_ne hne, fun p h => hp p (mem_sset.mp h), asc_sset _, by show (sset _).length ≤ 1000; omega⟩, by show (sset _).length ≤ 60; omega⟩
theorem turn_lot {m : Nat} {l : Lot} {ks : List Int} (hl : LotOk m l) : LotOk m (Tup.mk ((l.items.map fun p => turnV p ks).mergeSort fun a b => !DatumOrd.lt b a)) := by
  have hlen : ((l.items.map fun p => turnV p ks).mergeSort fun a b => !DatumOrd.lt b a).length = l.items.length := by rw [List.length_mergeSort, List.length_map]
  have h1 := glot_len hl.lot
  have h2 := hl.len
  refine ⟨⟨List.length_pos_iff.mp (by show 0 < (List.mergeSort _ _).length; omega), fun p hp => ?_, msort_tlt ?_, by show (List.mergeSort _ _).length ≤ 1000; omega⟩, by show (List.mergeSort _ _).length ≤ 60; omega⟩
  · obtain ⟨p0, hp0, rfl⟩ := List.mem_map.mp ((List.mergeSort_perm _ _).mem_iff.mp hp)
    exact ⟨by rw [turn_len, (hl.lot.plans p0 hp0).len], turn_bits (hl.lot.plans p0 hp0).bits _⟩
  · have hn : l.items.Pairwise fun a b => turnV a ks ≠ turnV b ks := hl.lot.asc.imp_of_mem fun {a b} ha hb h e => by
      have := turn_inj (by rw [(hl.lot.plans a ha).len, (hl.lot.plans b hb).len]) e
      rw [this] at h
      have h3 : PySem.W.listLt b.items b.items = true := h
      rw [ll_irr] at h3
      cases h3
    exact List.pairwise_map.mpr hn
theorem sum_lot {m : Nat} {l0 : Lot} {p : Row} (hm : 1 ≤ m ∧ m ≤ 5) (h0 : LotOk m l0) (hp : p ∈ l0.items) : LotOk m (Tup.mk ((everyV (m : Int)).filter fun x : Row => decide (x.items.sum = p.items.sum))) := by
  have g := h0.lot.plans p hp
  have hb := bits_sum g.bits
  rw [g.len] at hb
  obtain ⟨z, hz, hs⟩ := every_sum hm.2 (j := p.items.sum.toNat) (by omega)
  have hl := List.length_filter_le (fun x : Row => decide (x.items.sum = p.items.sum)) (everyV (m : Int))
  have he := (every_le hm.2).1
  refine ⟨⟨List.ne_nil_of_mem (a := z) (List.mem_filter.mpr ⟨hz, decide_eq_true (by omega)⟩), fun x hx => every_plan hm.2 (List.mem_filter.mp hx).1, (every_asc hm.2).filter _, by show (List.filter _ _).length ≤ 1000; omega⟩, by show (List.filter _ _).length ≤ 60; omega⟩
def R_houses : List PyData → PyData → Prop := fun ds r => ∃ (m : Nat) (q : Int), ds = [.int (m : Int), .int q] ∧ ((1 ≤ m ∧ m ≤ 5) ∧ 1 ≤ q ∧ q ≤ 60) ∧ ∃ hs : Hs, r = Datum.toD hs ∧ GHs m hs ∧ ∀ l ∈ hs.items, LotOk m l

section
variable {P : Program} {w : World} {K : PySem.W.Frag} {mg : Str → Option Value} {base : Heap}
end
end Sp

set_option Elab.async false
set_option linter.all false
set_option maxRecDepth 100000
set_option maxHeartbeats 4000000
namespace Sp
open PySem PySem.Spec PyProof.Rows L2
open PySem.W (Datum DatumOrd Tup)

/-- nothing hidden -/
def no0 : Addr → Bool := fun _ => false
theorem hid_no0 {H : Hp} : hid no0 H = H := rfl
theorem ok_no0 {H : Hp} : Okc no0 H := fun b h => nomatch h
theorem sql_same {K : PySem.W.Frag} {H H' : Hp} {a : Addr} {xs : List V} (s : Same H H') (h : SqL K H a xs) : SqL K H' a xs := h.imp (Evl.ex_rd s) id
theorem seq_for {wi : TI} {g : TG} {tb u : TS} {D : Ends} {σ : L2.St} {H : Hp} (h : wi σ H fun J H1 => ∃ W : Nat → Nat → L2.St → Hp → Prop, (∃ m, W 0 m σ H1) ∧ ∀ i m σ H, W i m σ H →
  (J.stop i H ∧ u D σ H) ∨ (J.go i H ∧ ∃ N : L2.St → Hp → Prop, (∀ σ' H', N σ' H' → ∃ m', m' < m ∧ W (i + 1) m' σ' H') ∧ ∀ x H', J.yld i H x H' → g x σ H' fun σ2 H2 => tb { D with nx := N, ct := N, bk := u D } σ2 H2)) : tSeq (tFor wi g tb) u D σ H := h
def SpCells (K : PySem.W.Frag) : L2.Sp := fun vs H Q _ => ∃ (a : Addr) (xs : List Int), vs = [.ref a, .int 1] ∧ SqL K H a (xs.map V.int) ∧ ∀ v H' (ys : List Int), ys ≠ [] → Same H H' → Rp K H' v ys → Q v H'
theorem ev_slSq {K : PySem.W.Frag} {F : Hp} {a : Addr} {xs : List Int} {σ : L2.St} {i : Nat} {tl th : TO} {lo hi : Option Int} (hσ : σ[i]? = some (some (.ref a))) (h : SqL K F a (xs.map V.int)) (hl : EvO K F tl σ lo) (hh : EvO K F th σ hi) : Ev K F (tSl (rSlL K) (tVar i) tl th) σ (cutL xs lo hi) := fun c H s ok Q q =>
  ⟨.ref a, hσ, hl c H s ok _ fun H2 s2 => hh c H2 (s.trans s2.hid) (ok.mono s2) _ fun H3 s3 =>
    ⟨a, xs.map V.int, rfl, sql_same (s.trans ((s2.trans s3).hid.trans (hid_le _ _))) h, fun p np => q _ _ ((s2.trans s3).trans (same_new np)) (rp_mkL (.inl (hid_new (((ok.mono s2).mono s3).new np))) (cut_rps rps_ints))⟩⟩
theorem fresh_or {K : PySem.W.Frag} {F : Hp} {σ : L2.St} {te : TE} {xs : List Int} {j : Int} (h : Ev K F te σ xs) {c : Addr → Bool} {H : Hp} (s : Same F (hid c H)) (ok : Okc c H) {Q : VK} (q : ∀ p H' (ns : List Int), ns ≠ [] → Same H H' → H p = none → H' p = some (.lst (ns.map V.int)) → Q (.ref p) H') : (tOrT K (tCB (rListX K) (tCons te tNil)) (tLst (tCons (tC (.int j)) tNil))) σ H Q :=
  h c H s ok _ fun v H1 s1 r1 => by
    obtain ⟨b, vs, rfl, hs, hr⟩ := rp_lst r1
    refine ⟨b, vs, rfl, .inl (.inl (rd_le hs)), fun l nl => ?_⟩
    have hl : H l = none := by
      cases z : H l with
      | none => rfl
      | some o => rw [s1 _ _ z] at nl; cases nl
    refine ⟨!vs.isEmpty, .inl ⟨vs, .inl (.inl (upd_same ..)), rfl⟩, ?_⟩
    rw [hr.ints]
    cases xs with
    | nil =>
      rw [if_neg (by simp)]
      refine ⟨by show 1 ≤ sizeLine; decide, fun p np => ?_⟩
      have s2 : Same H (upd H1 l (.lst (([] : List Int).map V.int))) := s1.trans (same_new nl)
      refine q p _ [j] (by simp) (s2.trans (same_new np)) ?_ (upd_same ..)
      cases z : H p with
      | none => rfl
      | some o =>
        rw [s2 _ _ z] at np
        cases np
    | cons x xs =>
      rw [if_pos (by simp)]
      exact q l _ (x :: xs) (by simp) (s1.trans (same_new nl)) hl (upd_same ..)

section
variable {P : Program} {w : World} {K : PySem.W.Frag} {mg : Str → Option Value} {base : Heap}
theorem sc_law_cells : FnScope ["script", "most_so", "cells_so", "k", "bit_so", "at_so"] ["script", "most_so"] (defScope (top 53)) := ⟨rfl, rfl, rfl, by decide +kernel, rfl, by decide +kernel, by decide +kernel⟩
theorem c__law_cells (B : Bn mg) (D : DefIn K mg "_law_cells" (top 53)) : C8.Cal P w K mg base 1 "_law_cells" (SpCells K) [] := by
  refine cal_any (sp := SpCells K) D sc_law_cells (fun _ _ _ _ _ _ us hl => match us, hl with | [_, _], _ => rfl) (fun vs H Q E h => by obtain ⟨a, xs, rfl, _⟩ := h; rfl) fun f cdv A outer s H E hr => ⟨_, (pss_cons (ps_set (i := 2) sc_law_cells.nd rfl (by first | exact Or.inl rfl | exact Or.inr rfl) (pe_orT (pe_callTy (cr_listX : CallR _ _ (rListX K)) (by rfl) B.list PyProof.Rows.boot_list (pa_cons (pe_slice (sl_list : SlR _ (rSlL K)) (pv 0) po_none (po_some (pv 1))) pa_nil)) (pe_one (pe_lst (pa_cons pe_int pa_nil)))))
    (pss_cons (ps_for PassesOwn.never rfl (pi_enumX (by rfl) B.enumerate (pa_cons (pe_slice (sl_list : SlR _ (rSlL K)) (pv 0) (po_some (pv 1)) (po_some pe_int)) pa_nil) : PI _ _ _ (iEnumX K _)) (pg_tup (n := 2) rfl (pgs_cons (pg_name (i := 3) sc_law_cells.nd rfl (by first | exact Or.inl rfl | exact Or.inr rfl)) (pgs_cons (pg_name (i := 4) sc_law_cells.nd rfl (by first | exact Or.inl rfl | exact Or.inr rfl)) pgs_nil)) : PG _ _ (gTup K 2 _)) (pss_cons (ps_set (i := 5) sc_law_cells.nd rfl (by first | exact Or.inl rfl | exact Or.inr rfl) (pe_op op_modN (pe_callTy cr_intX (by rfl) B.int PyProof.Rows.boot_int (pa_cons (pv 3) pa_nil)) (pv 1)))
    (pss_one (ps_asg (pe_op op_add (pe_ix (ix_seq : IxR _ (rIx K)) (pv 2) (pv 5) (fun _ _ => rfl)) (pe_op op_mul (pv 4) (pe_op op_add (pv 3) pe_int))) (pg_sub (pv 2) (pv 5) set_list)))))
    (pss_one (ps_ret (pv 2))))), ?_⟩
  rintro vs Q ⟨a, xs, rfl, hs, q⟩
  have hs0 : SqL K H a (xs.map V.int) := hs
  show tSeq (tAsg _ (gName 2)) _ _ [some (.ref a), some (.int 1), none, none, none, none] H
  refine seq_set (fresh_or (F := H) (c := no0) (ev_slSq (i := 0) (by rfl) hs0 eo_none (eo_some (ev_var (i := 1) (by rfl) (rp_mkI (i := 1))))) (Same.refl _) ok_no0 fun D H1 ns hns s1 hD hD1 => ?_)
  have okm : Okc (more no0 D) H1 := okc_more ok_no0 (by rw [hD1]; exact cel_lst)
  have f1 : ∀ H2, Same H H2 → Same H (hid (more no0 D) H2) := fun H2 s b o e => by
    have hb : b ≠ D := fun z => by rw [z, hD] at e; cases e
    rw [hid_at (by simp [more, no0, hb])]
    exact s _ _ e
  refine seq_for (ei_enumL (F := H) (σ := [some (.ref a), some (.int 1), some (.ref D), none, none, none]) (ev_slSq (i := 0) (by rfl) hs0 (eo_some (ev_var (i := 1) (by rfl) (rp_mkI (i := 1)))) (eo_some ev_int)) (more no0 D) H1 (f1 _ s1) okm _ fun J H2 s2 j2 hz => ?_)
  generalize hys : ((rangeL 0 (cutL xs (some 1) (some 63)).length).zip (cutL xs (some 1) (some 63))) = ys at j2
  have hk : ∀ (i : Nat) (k b : Int), ys[i]? = some (k, b) → 0 ≤ k ∧ k ≤ 63 := fun i k b e => by
    rw [← hys] at e
    rw [List.getElem?_zip_eq_some] at e
    have hi : i < (((cutL xs (some 1) (some 63)).length : Int) - 0).toNat := by
      have := (List.getElem?_eq_some_iff.mp e.1).1
      rwa [rangeL_len] at this
    have e1 := e.1
    rw [rangeL_get hi] at e1
    have e1 : (0 : Int) + (i : Int) = k := Option.some.inj e1
    have hl : (cutL xs (some 1) (some 63)).length ≤ 63 := by
      unfold cutL
      rw [List.length_take, List.length_drop]
      have : HT.sIx xs.length xs.length (some 63) = min 63 xs.length := HT.sIx_nat xs.length xs.length 63
      omega
    omega
  have e2 : H2 D = some (.lst (ns.map V.int)) := s2 _ _ hD1
  refine ⟨fun i m σ' H3 => m = ys.length - i ∧ i ≤ ys.length ∧ Same H H3 ∧ Same (hid (more no0 D) H2) (hid (more no0 D) H3) ∧ ∃ o3 o4 o5, σ' = [some (.ref a), some (.int 1), some (.ref D), o3, o4, o5] ∧ ∃ ms : List Int, ms ≠ [] ∧ H3 D = some (.lst (ms.map V.int)), ⟨ys.length, by simp, Nat.zero_le _, s1.trans s2, Same.refl _, _, _, _, rfl, ns, hns, e2⟩, ?_⟩
  rintro i m σ' H3 ⟨rfl, hil, s3, f3, o3, o4, o5, rfl, ms, hms, e3⟩
  have okm3 : Okc (more no0 D) H3 := okc_more ok_no0 (by rw [e3]; exact cel_lst)
  obtain ⟨jg, js, jy⟩ := j2 (more no0 D) H3 f3 okm3
  by_cases hlt : i < ys.length
  · have hx : ys[i]? = some ys[i] := List.getElem?_eq_getElem hlt
    refine .inr ⟨jg i hlt, fun σ4 H4 => Same H H4 ∧ Same (hid (more no0 D) H2) (hid (more no0 D) H4) ∧ ∃ o3 o4 o5, σ4 = [some (.ref a), some (.int 1), some (.ref D), o3, o4, o5] ∧ ∃ ms : List Int, ms ≠ [] ∧ H4 D = some (.lst (ms.map V.int)), fun σ4 H4 h => ⟨ys.length - (i + 1), by omega, rfl, by omega, h⟩, fun v H4 y => ?_⟩
    obtain ⟨s4, r4⟩ := jy i v H4 _ hx y
    have e4 : H4 D = some (.lst (ms.map V.int)) := s4 _ _ e3
    obtain ⟨⟨k, bit⟩, hp⟩ : ∃ z, ys[i] = z := ⟨_, rfl⟩
    rw [hp] at r4 hx
    obtain ⟨v1, v2, r1, r2, eg⟩ := eg_two (i := 3) (j := 4) (σ := [some (.ref a), some (.int 1), some (.ref D), o3, o4, o5]) r4
    have hkk := hk i k bit hx
    refine eg (more no0 D) H4 (Same.refl _) (okc_more ok_no0 (by rw [e4]; exact cel_lst)) _ ?_
    have r1' : Rp K (hid no0 H4) v1 k := r1.mono hid_less
    have r2' : Rp K (hid no0 H4) v2 bit := r2.mono hid_less
    refine seq_set ((Ev.cast (ev_i (ev_intI (ev_var (i := 3) (by rfl) r1')) (ev_var (i := 1) (by rfl) (rp_mkI (i := 1))) (by show (1 : Int) ≠ 0; decide)) (y := (0 : Int)) (by show k.fmod 1 = 0; rw [Int.fmod_eq_emod_of_nonneg _ (by decide)]; omega)) no0 H4 (Same.refl _) ok_no0 _ fun va H5 s5 r5 => ?_)
    have e5 : H5 D = some (.lst (ms.map V.int)) := s5 _ _ e4
    have rD : Rp K (hid no0 H5) (.ref D) ms := rp_mkL (.inl e5) rps_ints
    refine (ev_i0 (ev_nthL (i := 0) (ev_var (i := 2) (by rfl) rD) (ev_var (i := 5) (by rfl) r5) (len0 hms)) (ev_i (ev_var (i := 4) (by rfl) (r2'.mono s5.hid)) (ev_i0 (ev_var (i := 3) (by rfl) (r1'.mono s5.hid)) ev_int) ?_)) no0 H5 (Same.refl _) ok_no0 _ fun vb H6 s6 r6 => ?_
    · exact .inr (by omega)
    have e6 : H6 D = some (.lst (ms.map V.int)) := s6 _ _ e5
    have ea := rp_int r5
    have eb := rp_int r6
    subst ea eb
    refine ⟨.ref D, rfl, .int 0, rfl, D, _, 0, 0, rfl, rfl, e6, ?_, ?_⟩
    · have := (len0 hms).2
      unfold ixN
      rw [List.length_map, if_pos (by decide), if_pos this]
      rfl
    · refine ⟨same_upd hD (s3.trans (s4.trans (s5.trans s6))), (f3.trans (s4.trans (s5.trans s6)).hid).trans (hid_upd more_self), _, _, _, rfl, ms.set 0 (nth ms 0 + bit * (k + 2)), fun e => hms (by simpa using e), ?_⟩
      rw [upd_same, List.map_set]
  · have e : i = ys.length := by omega
    subst e
    exact .inl ⟨js, ⟨.ref D, rfl, q _ _ ms hms s3 (rp_mkL (.inl e3) rps_ints)⟩⟩

end
end Sp

set_option Elab.async false
set_option linter.all false
set_option maxRecDepth 100000
set_option maxHeartbeats 4000000
namespace Sp
open PySem PySem.Spec PyProof.Rows L2
open PySem.W (Datum DatumOrd Tup)

theorem ret_lst {tr : TA} {D : Ends} {σ : L2.St} {H : Hp} (h : tr σ H fun xs H1 => xs.length ≤ sizeLine ∧ ∀ p, H1 p = none → D.rt (.ref p) (upd H1 p (.lst xs))) : tRet (tLst tr) D σ H := h
def SpBox (K : PySem.W.Frag) : L2.Sp := fun vs H Q _ => ∃ (v : V) (xs : List Int), vs = [v, .int 0] ∧ Rp K H v xs ∧ xs ≠ [] ∧ ∀ p H' x y z, BoxOk x y z 1000000 → Same H H' → H p = none → H' p = some (.lst [.int x, .int y, .int z]) → Q (.ref p) H'

section
variable {P : Program} {w : World} {K : PySem.W.Frag} {mg : Str → Option Value} {base : Heap}
set_option maxHeartbeats 400000
theorem c__law_box2 (B : Bn mg) (D : DefIn K mg "_law_box" (top 51)) : C8.Cal P w K mg base 1 "_law_box" (SpBox K) [] := by
  refine cal_any (sp := SpBox K) D sc_law_box (fun _ _ _ _ _ _ us hl => match us, hl with | [_, _], _ => rfl) (fun vs H Q E h => by obtain ⟨a, xs, rfl, _⟩ := h; rfl) fun f cdv A outer s H E hr => ⟨_, (pss_cons (ps_set (i := 2) sc_law_box.nd rfl (by first | exact Or.inl rfl | exact Or.inr rfl) (pe_ifExp (pt_cmpR op_lt (pv 1) (pe_callB (cr_lenX : CallR _ _ (rLenX K)) (by rfl) B.len PySem.boot_len (pa_cons (pv 0) pa_nil)) (nomark _)) (pe_ix (ix_seq : IxR _ (rIx K)) (pv 0) (pv 1) (fun _ _ => rfl)) pe_int))
    (pss_one (ps_ret (pe_lst (pa_cons (pe_op op_mul (pe_callB cr_absX (by rfl) B.abs PyProof.Rows.boot_abs (pa_cons (pv 2) pa_nil)) (pe_callTy cr_intX (by rfl) B.int PyProof.Rows.boot_int (pa_cons (pe_cmpR op_ge (pe_callB cr_absX (by rfl) B.abs PyProof.Rows.boot_abs (pa_cons (pv 2) pa_nil)) (pe_op op_pow pe_int pe_int) (nomark _)) pa_nil))) (pa_cons (pe_op op_add (pe_op op_add (pe_op op_modN (pe_callTy cr_intX (by rfl) B.int PyProof.Rows.boot_int (pa_cons (pv 2) pa_nil)) pe_int) (pe_op op_mul pe_int (pv 1))) pe_int) (pa_cons pe_int pa_nil))))))), ?_⟩
  rintro vs Q ⟨v_script, script, rfl, r_script, hne, q⟩
  have hl := (len0 hne).2
  have r_k : ∀ F, Rp K F (.int 0) (0 : Int) := fun F => rp_mkI
  refine seq_set ((ev_if (σ := [some v_script, some (.int 0), none]) (et_test (ev_b0 (ev_var (i := 1) (by rfl) (r_k _)) (ev_lenL (ev_var (i := 0) (by rfl) r_script)))) (fun h1 => (ev_nthL (ev_var (i := 0) (by rfl) r_script) (ev_var (i := 1) (by rfl) (r_k _)) ?_)) (fun h1 => ev_int)) no0 H (Same.refl _) ok_no0 _ fun v1 H1 s1 r1 => ?_)
  · exact len0 hne
  refine ret_lst ((es_cons (ev_i (ev_abs (ev_var (i := 2) (σ := [some v_script, some (.int 0), some v1]) (by rfl) r1)) (ev_intB (ev_b0 (ev_abs (ev_var (i := 2) (by rfl) r1)) (ev_i ev_int ev_int ?_))) ?_) (es_cons (ev_i0 (ev_i0 (ev_i (ev_intI (ev_var (i := 2) (by rfl) r1)) ev_int ?_) (ev_i ev_int (ev_var (i := 1) (by rfl) (r_k _)) ?_)) ev_int) (es_cons ev_int es_nil))) no0 H1 (Same.refl _) ok_no0 _ fun vs H2 s2 r2 => ?_)
  · exact ⟨by decide, by decide, by decide⟩
  · have hB : ∀ b : Bool, -(2 ^ 64) < (if b = true then (1 : Int) else 0) ∧ (if b = true then (1 : Int) else 0) < 2 ^ 64 := by
      intro b
      cases b <;> decide
    exact .inr (hB _)
  · decide
  · exact cmulL (by decide) (by decide)
  · have e : vs = ([(if nth script 0 < 0 then -nth script 0 else nth script 0) * (if decide (1000000000000000000 ≤ (if nth script 0 < 0 then -nth script 0 else nth script 0)) then 1 else 0), (nth script 0).fmod 2305843009213693951 + 39373 * 0 + 7052087, 0] : List Int).map V.int := by
      rw [Rps.ints (show Rps K _ vs _ from r2), decide_eq_true hl]
      rfl
    subst e
    refine ⟨by show 3 ≤ sizeLine; decide, fun p np => ?_⟩
    have hp : H p = none := by
      cases z : H p with
      | none => rfl
      | some o => rw [s2 _ _ (s1 _ _ z)] at np; cases np
    exact q p _ _ _ _ (box_start (nth script 0) 7052087) ((s1.trans s2).trans (same_new np)) hp (upd_same ..)

end
end Sp

set_option Elab.async false
set_option linter.all false
set_option maxRecDepth 100000
set_option maxHeartbeats 4000000
namespace Sp
open PySem PySem.Spec PyProof.Rows L2
open PySem.W (Datum DatumOrd Tup)

open Lp (entL turnedL enterL leaveL itL goL Done riseL putL negL sgL poS poN Res bf)
abbrev Lots := Tup (Tup Int) × Tup (Tup Int)
structure GLots (n : Nat) (p : Lots) : Prop where
  one : GLot n p.1
  two : GLot n p.2
  n1 : 1 ≤ n ∧ n ≤ 40
/-- a supply -/
structure GSup (n : Nat) (s : Row) : Prop where
  len : s.items.length = n
  bits : ∀ x ∈ s.items, 0 ≤ x ∧ x ≤ 2
def R_sure_lot : List PyData → PyData → Prop := fun ds r => ∃ d, ds = [d] ∧ ∃ (l : Lot) (n : Nat), dpt d ≤ 4 ∧ tupD d = Datum.toD l ∧ (1 ≤ n ∧ n ≤ 40) ∧ GLot n l ∧ r = Datum.toD l
theorem R_sure_lot_mk {d : PyData} {l : Lot} {n : Nat} (h : dpt d ≤ 4) (e : tupD d = Datum.toD l) (hn : 1 ≤ n ∧ n ≤ 40) (g : GLot n l) : R_sure_lot [d] (Datum.toD l) := ⟨d, rfl, l, n, h, e, hn, g, rfl⟩
/-- what is told as two lots -/
structure Told2 (n : Nat) (d e : PyData) (p : Lots) : Prop where
  d1 : dpt d ≤ 4 ∧ tupD d = Datum.toD p.1
  d2 : dpt e ≤ 4 ∧ tupD e = Datum.toD p.2
  lots : GLots n p
def R_sure_lots : List PyData → PyData → Prop := fun ds r => ∃ d e, ds = [d, e] ∧ ∃ (p : Lots) (n : Nat), Told2 n d e p ∧ r = Datum.toD p
theorem R_sure_lots_mk {d e : PyData} {p : Lots} {n : Nat} (h : Told2 n d e p) : R_sure_lots [d, e] (Datum.toD p) := ⟨d, e, rfl, p, n, h, rfl⟩
def Few (n : Nat) (p : Lots) : Prop := p.1.items.length + p.2.items.length ≤ 24 ∧ n ≤ 5
abbrev R_sure_dealt := R1 (fun p : Lots => ∃ n, GLots n p ∧ Few n p) (fun p => p)
abbrev R_is_supply_of := R2' (fun (s : Row) (n : Int) => ∃ m : Nat, n = (m : Int) ∧ GSup m s) (fun _ _ => true)
def R_sure_supply : List PyData → PyData → Prop := fun ds r => ∃ d n, ds = [d, .int n] ∧ ∃ (s : Row) (m : Nat), n = (m : Int) ∧ dpt d ≤ 4 ∧ tupD d = Datum.toD s ∧ GSup m s ∧ r = Datum.toD s
theorem R_sure_supply_mk {d : PyData} {s : Row} {m : Nat} {n : Int} (hn : n = (m : Int)) (h : dpt d ≤ 4) (e : tupD d = Datum.toD s) (g : GSup m s) : R_sure_supply [d, Datum.toD n] (Datum.toD s) := ⟨d, n, rfl, s, m, hn, h, e, g, rfl⟩
abbrev R_set_of := R1 SetOk (fun xs => Tup.mk (sset xs))
structure GPlaces (n : Nat) (r : Row) : Prop where
  asc : r.items.Pairwise (· < ·)
  low : ∀ x ∈ r.items, 0 ≤ x ∧ x < (n : Int)
  few : r.items.length ≤ 1000
abbrev R_is_set_below := R2' (fun (s : Row) (n : Int) => ∃ m : Nat, n = (m : Int) ∧ GPlaces m s) (fun _ _ => true)
def R_sure_places : List PyData → PyData → Prop := fun ds r => ∃ d n, ds = [d, .int n] ∧ ∃ (s : Row) (m : Nat), n = (m : Int) ∧ dpt d ≤ 4 ∧ tupD d = Datum.toD s ∧ GPlaces m s ∧ r = Datum.toD s
theorem R_sure_places_mk {d : PyData} {s : Row} {m : Nat} {n : Int} (hn : n = (m : Int)) (h : dpt d ≤ 4) (e : tupD d = Datum.toD s) (g : GPlaces m s) : R_sure_places [d, Datum.toD n] (Datum.toD s) := ⟨d, n, rfl, s, m, hn, h, e, g, rfl⟩
abbrev R_plan_turned := R2' (fun (_ : Row) (_ : Row) => True) (fun p ks => turnV p ks.items)
def msR (xs : List Row) : List Row := xs.mergeSort fun a b => !DatumOrd.lt b a
def turnedV (hs : Hs) (ks : Row) : Hs := Tup.mk (hs.items.map fun l => Tup.mk (msR (l.items.map fun p => turnV p ks.items)))
def R_turned_houses : List PyData → PyData → Prop := fun ds r => ∃ d e, ds = [d, e] ∧ ∃ (hs : Hs) (ks : Row) (n : Nat), dpt d ≤ 4 ∧ tupD d = Datum.toD hs ∧ GHs n hs ∧ dpt e ≤ 4 ∧ tupD e = Datum.toD ks ∧ GPlaces n ks ∧ r = Datum.toD (turnedV hs ks)
abbrev Bag := Tup (Tup Int × Int)
def bagV (l : Lot) (ws : List Int) : Bag := Tup.mk ((((l.items.zip ws).filter fun q => decide (q.2 > 0)).map fun q => (q.1, q.2)).mergeSort fun a b => !DatumOrd.lt b a)
abbrev R_bag_by := R2' (fun (l : Lot) (ws : List Int) => l.items.length ≤ ws.length) bagV
def subR (s p : Row) : Row := Tup.mk ((s.items.zip p.items).map fun q => q.1 - q.2)
def addR (s p : Row) : Row := Tup.mk ((s.items.zip p.items).map fun q => q.1 + q.2)
def dealsV (p : Lots) (s : Row) : List (Row × Row) := (p.1.items.map fun q => (q, subR s q)).filter fun z => decide (z.2 ∈ p.2.items)
abbrev R_deals_of := R2' (fun (p : Lots) (s : Row) => ∃ n, GLots n p ∧ GSup n s) dealsV
def wRows (p : Lots) (n : Nat) : List (List Int) := ((List.range n).map fun k => (p.1.items ++ p.2.items).map fun q => q.items.getD k 0) ++ [List.replicate p.1.items.length 1 ++ List.replicate p.2.items.length 0, List.replicate p.1.items.length 0 ++ List.replicate p.2.items.length 1]
noncomputable def weighedV (p : Lots) (s : Row) : Lp.Res := Lp.solvedL (wRows p s.items.length) (s.items ++ [1, 1]) (List.replicate (p.1.items.length + p.2.items.length) 0) (p.1.items.length + p.2.items.length) (s.items.length + 2)
def R_weighed : List PyData → PyData → Prop := fun ds r => ∃ (p : Lots) (s : Row) (n : Nat), ds = [Datum.toD p, Datum.toD s] ∧ GLots n p ∧ Few n p ∧ GSup n s ∧ r = resD (weighedV p s)
theorem R_weighed_mk {p : Lots} {s : Row} {n : Nat} (g : GLots n p) (f : Few n p) (gs : GSup n s) : R_weighed [Datum.toD p, Datum.toD s] (resD (weighedV p s)) := ⟨p, s, n, rfl, g, f, gs, rfl⟩
noncomputable def dealD (p : Lots) (s : Row) : PyData := match dealsV p s with
  | z :: _ => .tuple [.str "deal", Datum.toD z.1, Datum.toD z.2]
  | [] => match weighedV p s with
    | .best _ ws _ => .tuple [.str "mixes", Datum.toD (bagV p.1 (ws.take p.1.items.length)), Datum.toD (bagV p.2 (ws.drop p.1.items.length))]
    | .none _ z => .tuple [.str "prices", Datum.toD (Tup.mk ((z.take s.items.length).map fun x => -x))]
def R_deal_by : List PyData → PyData → Prop := fun ds r => ∃ (p : Lots) (s : Row) (n : Nat), ds = [Datum.toD p, Datum.toD s] ∧ GLots n p ∧ Few n p ∧ GSup n s ∧ r = dealD p s
def isBest : Lp.Res → Bool
  | .best _ _ _ => true
  | .none _ _ => false
def grow (f : List Row) : List Row := f.flatMap fun own => ([0, 1, 2] : List Int).map fun more => Tup.mk (own.items ++ [more])
def everyS : Nat → List Row
  | 0 => [Tup.mk []]
  | n + 1 => grow (everyS n)
noncomputable def supsV (p : Lots) (n : Nat) : List Row := (everyS n).filter fun s => isBest (weighedV p s)
def R_supplies_by : List PyData → PyData → Prop := fun ds r => ∃ (p : Lots) (n : Nat), ds = [Datum.toD p] ∧ GLots n p ∧ Few n p ∧ r = Datum.toD (supsV p n)
theorem R_supplies_by_mk {p : Lots} {n : Nat} (g : GLots n p) (f : Few n p) : R_supplies_by [Datum.toD p] (Datum.toD (supsV p n)) := ⟨p, n, rfl, g, f, rfl⟩
def sumsL (p : Lots) : List Row := p.1.items.flatMap fun a => p.2.items.map fun b => addR a b
def R_sums : List PyData → PyData → Prop := fun ds r => ∃ d e, ds = [d, e] ∧ ∃ (p : Lots) (n : Nat), Told2 n d e p ∧ p.1.items.length * p.2.items.length < 64 ∧ r = Datum.toD (Tup.mk (sset (sumsL p)) : Lot)
def R_deals : List PyData → PyData → Prop := fun ds r => ∃ d e f, ds = [d, e, f] ∧ ∃ (p : Lots) (s : Row) (n : Nat), Told2 n d e p ∧ (dpt f ≤ 4 ∧ tupD f = Datum.toD s ∧ GSup n s) ∧ r = Datum.toD (Tup.mk (dealsV p s))
def R_deal_paper : List PyData → PyData → Prop := fun ds r => ∃ d e f, ds = [d, e, f] ∧ ∃ (p : Lots) (s : Row) (n : Nat), Told2 n d e p ∧ Few n p ∧ (dpt f ≤ 4 ∧ tupD f = Datum.toD s ∧ GSup n s) ∧ r = dealD p s
noncomputable def barV (p : Lots) (n : Nat) : Option Row := (supsV p n).find? fun s => decide (dealsV p s = [])
def optR : Option Row → PyData
  | none => .none
  | some s => Datum.toD s
def R_barred_supply : List PyData → PyData → Prop := fun ds r => ∃ d e, ds = [d, e] ∧ ∃ (p : Lots) (n : Nat), Told2 n d e p ∧ Few n p ∧ r = optR (barV p n)
def R_all_dealt : List PyData → PyData → Prop := fun ds r => ∃ d e, ds = [d, e] ∧ ∃ (p : Lots) (n : Nat), Told2 n d e p ∧ Few n p ∧ r = .bool (barV p n).isNone

theorem GLots.f00 {n : Nat} {p : Lots} (g : GLots n p) : (nth p.1.items 0).items.length = n := g.one.len (mem_nth0 g.one.ne)
theorem GLots.f10 {n : Nat} {p : Lots} (g : GLots n p) : (nth p.2.items 0).items.length = n := g.two.len (mem_nth0 g.two.ne)
theorem ev_p2t {K : PySem.W.Frag} {F : Hp} {σ : L2.St} {te : TE} {α : Type} [DecidableEq α] [Datum α] {x y : α} (h : Ev K F te σ (x, y)) : Ev K F te σ (Tup.mk [x, y]) := h
section
variable {P : Program} {w : World} {K : PySem.W.Frag} {mg : Str → Option Value} {base : Heap}
theorem scsure_lot : FnScope ["lot", "own"] ["lot"] (defScope (top 17)) := ⟨rfl, rfl, rfl, by decide +kernel, rfl, by decide +kernel, by decide +kernel⟩
theorem c_sure_lot (B : Bn mg) (D : DefIn K mg "sure_lot" (top 17)) (c_is_lot : C8.Cal P w K mg base 5 "is_lot" (SpG K R_is_lot) []) (c_tupled : C8.Cal P w K mg base 6 "tupled" (SpG K (R_tupled 4)) []) : C8.Cal P w K mg base 7 "sure_lot" (SpG K R_sure_lot) [] := by
  refine cal_pure (R := R_sure_lot) D scsure_lot (fun _ _ _ _ _ _ us hl => match us, hl with | [_], _ => rfl) (by
    rintro ds r ⟨_, rfl, _⟩; rfl) fun f cdv A outer s H E hr => ⟨_, (pss_cons (ps_set (i := 1) scsure_lot.nd rfl (by first | exact Or.inl rfl | exact Or.inr rfl) (C8.pe_c c_tupled hr (by decide) (by rfl) (pa_cons (pv 0) pa_nil)))
    (pss_cons (ps_if (pt_not (pt_val (C8.pe_c c_is_lot hr (by decide) (by rfl) (pa_cons (pv 1) pa_nil)))) (pss_one ps_never) pss_nil)
    (pss_one (ps_ret (pv 1))))), ?_⟩
  rintro F vs ds r ⟨d, rfl, l, n, hd, hp, hn, hg, rfl⟩ hv
  obtain ⟨v_lot, rfl, r_lot⟩ := dq1 hv
  refine (er_set (ev_call (ea_consD (evd_var (i := 0) rfl r_lot) ea_nil) (R_tupled_mk (x := l) ?_ ?_)) fun F1 v1 s1 r1 => (er_if (et_not (et_val (ev_call (ea_cons (ev_var (i := 1) rfl r1) ea_nil) (r1_mk ?_)))) (fun h1 => (er_never ?_)) (fun h1 => (er_next (er_retE (ev_var (i := 1) rfl r1) ?_)))))
  -- pre of tupled(lot)
  -- pre of tupled(lot)
  -- pre of is_lot(own)
  -- never: raise
  -- return own
  · exact hd
  · exact hp
  · exact ⟨n, hn, hg⟩
  · cases h1
  · rfl

theorem scsure_lots : FnScope ["lot", "other", "own", "far"] ["lot", "other"] (defScope (top 37)) := ⟨rfl, rfl, rfl, by decide +kernel, rfl, by decide +kernel, by decide +kernel⟩
theorem c_sure_lots (B : Bn mg) (D : DefIn K mg "sure_lots" (top 37)) (c_sure_lot : C8.Cal P w K mg base 7 "sure_lot" (SpG K R_sure_lot) []) : C8.Cal P w K mg base 8 "sure_lots" (SpG K R_sure_lots) [] := by
  refine cal_pure (R := R_sure_lots) D scsure_lots (fun _ _ _ _ _ _ us hl => match us, hl with | [_, _], _ => rfl) (by
    rintro ds r ⟨_, _, rfl, _⟩; rfl) fun f cdv A outer s H E hr => ⟨_, (pss_cons (ps_par (i := 2) (j := 3) rfl scsure_lots.nd rfl rfl (by decide) rfl rfl (pa_cons (C8.pe_c c_sure_lot hr (by decide) (by rfl) (pa_cons (pv 0) pa_nil)) (pa_cons (C8.pe_c c_sure_lot hr (by decide) (by rfl) (pa_cons (pv 1) pa_nil)) pa_nil)) (by rfl))
    (pss_cons (ps_if (pt_cmpR (op_neX hr.units : OpR _ _ (rNeX K)) (pe_callB (cr_lenX : CallR _ _ (rLenX K)) (by rfl) B.len PySem.boot_len (pa_cons (pe_ix (ix_seq : IxR _ (rIx K)) (pv 2) pe_int (fun _ _ => rfl)) pa_nil)) (pe_callB (cr_lenX : CallR _ _ (rLenX K)) (by rfl) B.len PySem.boot_len (pa_cons (pe_ix (ix_seq : IxR _ (rIx K)) (pv 3) pe_int (fun _ _ => rfl)) pa_nil)) (nomark _)) (pss_one ps_never) pss_nil)
    (pss_one (ps_ret (pe_tup (pa_cons (pv 2) (pa_cons (pv 3) pa_nil))))))), ?_⟩
  rintro F vs ds r ⟨d, e, rfl, p, n, hh, rfl⟩ hv
  obtain ⟨v_lot, v_other, rfl, r_lot, r_other⟩ := dq2 hv
  refine (er_par (ev_call (ea_consD (evd_var (i := 0) rfl r_lot) ea_nil) (R_sure_lot_mk (l := p.1) (n := n) hh.d1.1 hh.d1.2 hh.lots.n1 hh.lots.one)) (ev_call (ea_consD (evd_var (i := 1) rfl r_other) ea_nil) (R_sure_lot_mk (l := p.2) (n := n) hh.d2.1 hh.d2.2 hh.lots.n1 hh.lots.two)) fun F1 va1 vb1 s1 ra1 rb1 => (er_if (et_test (ev_ne (ev_lenT (ev_nthT (ev_var (i := 2) rfl ra1) ev_int ?_)) (ev_lenT (ev_nthT (ev_var (i := 3) rfl rb1) ev_int ?_)))) (fun h1 => (er_never ?_)) (fun h1 => (er_next (er_retE (ev_d2 (ev_var (i := 2) rfl ra1) (ev_var (i := 3) rfl rb1)) ?_)))))
  -- index: own[0]
  -- index: far[0]
  -- never: raise
  -- return (own, far)
  · exact len0 hh.lots.one.ne
  · exact len0 hh.lots.two.ne
  · rw [hh.lots.f00, hh.lots.f10] at h1
    simp at h1
  · rfl

theorem scsure_dealt : FnScope ["lots"] ["lots"] (defScope (top 38)) := ⟨rfl, rfl, rfl, by decide +kernel, rfl, by decide +kernel, by decide +kernel⟩
theorem c_sure_dealt (B : Bn mg) (D : DefIn K mg "sure_dealt" (top 38)) : C8.Cal P w K mg base 1 "sure_dealt" (SpG K R_sure_dealt) [] := by
  refine cal_pure (R := R_sure_dealt) D scsure_dealt (fun _ _ _ _ _ _ us hl => match us, hl with | [_], _ => rfl) (by
    rintro ds r ⟨_, rfl, _⟩; rfl) fun f cdv A outer s H E hr => ⟨_, (pss_cons (ps_if (PW.pt (pw_or (pt_cmpR op_gt (pe_op op_add (pe_callB (cr_lenX : CallR _ _ (rLenX K)) (by rfl) B.len PySem.boot_len (pa_cons (pe_ix (ix_seq : IxR _ (rIx K)) (pv 0) pe_int (fun _ _ => rfl)) pa_nil)) (pe_callB (cr_lenX : CallR _ _ (rLenX K)) (by rfl) B.len PySem.boot_len (pa_cons (pe_ix (ix_seq : IxR _ (rIx K)) (pv 0) pe_int (fun _ _ => rfl)) pa_nil))) (C8.pe_gc (by rfl) B.DEALT_PLANS) (nomark _)) (pw_or1 (pt_cmpR op_gt (pe_callB (cr_lenX : CallR _ _ (rLenX K)) (by rfl) B.len PySem.boot_len (pa_cons (pe_ix (ix_seq : IxR _ (rIx K)) (pe_ix (ix_seq : IxR _ (rIx K)) (pv 0) pe_int (fun _ _ => rfl)) pe_int (fun _ _ => rfl)) pa_nil)) (C8.pe_gc (by rfl) B.DEALT_PLACES) (nomark _))))) (pss_one ps_never) pss_nil)
    (pss_one (ps_ret (pv 0)))), ?_⟩
  rintro F vs ds r ⟨lots, rfl, hp, rfl⟩ hv
  obtain ⟨v_lots, rfl, r_lots⟩ := dq1 hv
  replace r_lots : Rp K F v_lots lots := r_lots
  refine (er_if (et_or (et_test (ev_b0 (ev_i0 (ev_lenT (ev_fst (ev_var (i := 0) rfl r_lots))) (ev_lenT (ev_snd (ev_var (i := 0) rfl r_lots)))) ev_int)) fun h1 => (et_test (ev_b0 (ev_lenT (ev_nthT (ev_fst (ev_var (i := 0) rfl r_lots)) ev_int ?_)) ev_int))) (fun h2 => (er_never ?_)) (fun h2 => (er_next (er_retE (ev_var (i := 0) rfl r_lots) ?_))))
  -- index: lots[0][0]
  -- never: raise
  -- return lots
  · obtain ⟨n, g, f⟩ := hp
    exact len0 g.one.ne
  · obtain ⟨n, g, f⟩ := hp
    rw [g.f00] at h2
    rcases (Bool.or_eq_true _ _).mp h2 with h | h
    · have := of_decide_eq_true h
      have := f.1
      omega
    · have := of_decide_eq_true h
      have := f.2
      omega
  · rfl

theorem scis_supply_of : FnScope ["thing", "many", "own"] ["thing", "many"] (defScope (top 39)) := ⟨rfl, rfl, rfl, by decide +kernel, rfl, by decide +kernel, by decide +kernel⟩
theorem c_is_supply_of (B : Bn mg) (D : DefIn K mg "is_supply_of" (top 39)) (c_is_long : C8.Cal P w K mg base 1 "is_long" (SpG K R_is_long) []) (c_is_within : C8.Cal P w K mg base 2 "is_within" (SpG K R_is_within) []) : C8.Cal P w K mg base 3 "is_supply_of" (SpG K R_is_supply_of) [] := by
  refine cal_pure (R := R_is_supply_of) D scis_supply_of (fun _ _ _ _ _ _ us hl => match us, hl with | [_, _], _ => rfl) (by
    rintro ds r ⟨_, _, rfl, _⟩; rfl) fun f cdv A outer s H E hr => ⟨_, (pss_one (ps_ret (pe_and (C8.pe_c c_is_long hr (by decide) (by rfl) (pa_cons (pv 0) (pa_cons (pv 1) pa_nil))) (pe_one (pe_callB (cr_all rfl : CallR _ _ (rAll K)) (by rfl) B.all PyProof.Rows.boot_all (pa_cons (pe_lc rfl scis_supply_of.nd (pi_seqX (pv 0) : PI _ _ _ (iSeqX K _)) (blkOk_by (own := [("own", 2)]) (by kernel_rfl)) (fun _ _ _ _ _ => (pg_name (i := 2) scis_supply_of.nd rfl (by first | exact Or.inl rfl | exact Or.inr rfl))) (fun _ _ _ _ _ => pts_nil) (fun _ _ _ _ _ => (C8.pe_c c_is_within hr (by decide) (by rfl) (pa_cons (pv 2) (pa_cons pe_int (pa_cons pe_int pa_nil)))))) pa_nil)))))), ?_⟩
  rintro F vs ds r ⟨thing, many, rfl, hp, rfl⟩ hv
  obtain ⟨v_thing, v_many, rfl, r_thing, r_many⟩ := dq2 hv
  replace r_thing : Rp K F v_thing thing := r_thing
  replace r_many : Rp K F v_many many := r_many
  refine (er_retE (ev_and (ev_call (ea_cons (ev_var (i := 0) rfl r_thing) (ea_cons (ev_var (i := 1) rfl r_many) ea_nil)) R_is_long_mk) fun h1 => (ev_all (ev_lc1 (ei_tup (ev_var (i := 0) rfl r_thing)) (fun F1 v1 x1 s1 hx1 r1 => lcb_name ⟨rfl, (ev_call (ea_cons (ev_var (i := 2) rfl r1) (ea_cons ev_int (ea_cons ev_int ea_nil))) (r3_mk True.intro))⟩)))) ?_)
  -- return is_long(thing, many) and all([is_within(own, 0, 2) for own in thing])
  obtain ⟨m, rfl, g⟩ := hp
  refine toB ?_
  rw [isLong_tup, g.len, decide_eq_true rfl, Bool.true_and]
  refine all_id fun x hx => ?_
  have := g.bits x hx
  show (decide (0 ≤ x) && decide (x ≤ 2)) = true
  rw [decide_eq_true (by omega), decide_eq_true (by omega)]
  rfl

theorem scsure_supply : FnScope ["supply", "many", "own"] ["supply", "many"] (defScope (top 40)) := ⟨rfl, rfl, rfl, by decide +kernel, rfl, by decide +kernel, by decide +kernel⟩
theorem c_sure_supply (B : Bn mg) (D : DefIn K mg "sure_supply" (top 40)) (c_is_supply_of : C8.Cal P w K mg base 3 "is_supply_of" (SpG K R_is_supply_of) []) (c_tupled : C8.Cal P w K mg base 6 "tupled" (SpG K (R_tupled 4)) []) : C8.Cal P w K mg base 7 "sure_supply" (SpG K R_sure_supply) [] := by
  refine cal_pure (R := R_sure_supply) D scsure_supply (fun _ _ _ _ _ _ us hl => match us, hl with | [_, _], _ => rfl) (by
    rintro ds r ⟨_, _, rfl, _⟩; rfl) fun f cdv A outer s H E hr => ⟨_, (pss_cons (ps_set (i := 2) scsure_supply.nd rfl (by first | exact Or.inl rfl | exact Or.inr rfl) (C8.pe_c c_tupled hr (by decide) (by rfl) (pa_cons (pv 0) pa_nil)))
    (pss_cons (ps_if (pt_not (pt_val (C8.pe_c c_is_supply_of hr (by decide) (by rfl) (pa_cons (pv 2) (pa_cons (pv 1) pa_nil))))) (pss_one ps_never) pss_nil)
    (pss_one (ps_ret (pv 2))))), ?_⟩
  rintro F vs ds r ⟨d, n, rfl, sv, m, hm, hd, hp, hg, rfl⟩ hv
  obtain ⟨v_supply, v_many, rfl, r_supply, r_many⟩ := dq2 hv
  replace r_many : Rp K F v_many n := r_many
  refine (er_set (ev_call (ea_consD (evd_var (i := 0) rfl r_supply) ea_nil) (R_tupled_mk (x := sv) ?_ ?_)) fun F1 v1 s1 r1 => (er_if (et_not (et_val (ev_call (ea_cons (ev_var (i := 2) rfl r1) (ea_cons (ev_var (i := 1) rfl (r_many.mono s1)) ea_nil)) (r2_mk ?_)))) (fun h1 => (er_never ?_)) (fun h1 => (er_next (er_retE (ev_var (i := 2) rfl r1) ?_)))))
  -- pre of tupled(supply)
  -- pre of tupled(supply)
  -- pre of is_supply_of(own, many)
  -- never: raise
  -- return own
  · exact hd
  · exact hp
  · exact ⟨m, hm, hg⟩
  · cases h1
  · rfl

theorem scset_of : FnScope ["row"] ["row"] (defScope (top 9)) := ⟨rfl, rfl, rfl, by decide +kernel, rfl, by decide +kernel, by decide +kernel⟩
theorem c_set_of (B : Bn mg) (D : DefIn K mg "set_of" (top 9)) : C8.Cal P w K mg base 1 "set_of" (SpG K R_set_of) [] := by
  refine cal_pure (R := R_set_of) D scset_of (fun _ _ _ _ _ _ us hl => match us, hl with | [_], _ => rfl) (by
    rintro ds r ⟨_, rfl, _⟩; rfl) fun f cdv A outer s H E hr => ⟨_, (pss_one (ps_ret (pe_callTy (cr_tupleX : CallR _ _ (rTupleX K)) (by rfl) B.tuple PyProof.Rows.boot_tuple (pa_cons (pe_callB (cr_sortedT rfl : CallR _ _ (rSortedT K P w)) (by rfl) B.sorted PyProof.Rows.boot_sorted (pa_cons (pe_callTy (cr_setOfT rfl hr.units : CallR _ _ (rSetOfT K P w)) (by rfl) B.set PyProof.Rows.boot_set (pa_cons (pv 0) pa_nil)) pa_nil)) pa_nil)))), ?_⟩
  rintro F vs ds r ⟨row, rfl, hp, rfl⟩ hv
  obtain ⟨v_row, rfl, r_row⟩ := dq1 hv
  replace r_row : Rp K F v_row row := r_row
  obtain ⟨hl, dd, bb, hd, hb⟩ := hp
  refine (er_retE (ev_tupL (ev_sset (d := dd) (B := bb) (ev_var (i := 0) rfl r_row) ?_ ?_ ?_)) ?_)
  -- set len
  -- 1 ≤ d
  -- set items
  -- return tuple(sorted(set(row)))
  · exact hl
  · exact hd
  · exact hb
  · rfl

theorem scis_set_below : FnScope ["thing", "many", "own"] ["thing", "many"] (defScope (top 11)) := ⟨rfl, rfl, rfl, by decide +kernel, rfl, by decide +kernel, by decide +kernel⟩
theorem c_is_set_below (B : Bn mg) (D : DefIn K mg "is_set_below" (top 11)) (c_are_numbers : C8.Cal P w K mg base 2 "are_numbers" (SpG K R_are_numbers) []) (c_ascends : C8.Cal P w K mg base 1 "ascends" (SpG K R_ascends2) []) : C8.Cal P w K mg base 3 "is_set_below" (SpG K R_is_set_below) [] := by
  refine cal_pure (R := R_is_set_below) D scis_set_below (fun _ _ _ _ _ _ us hl => match us, hl with | [_, _], _ => rfl) (by
    rintro ds r ⟨_, _, rfl, _⟩; rfl) fun f cdv A outer s H E hr => ⟨_, (pss_one (ps_ret (pe_and (C8.pe_c c_are_numbers hr (by decide) (by rfl) (pa_cons (pv 0) pa_nil)) (pe_and (C8.pe_c c_ascends hr (by decide) (by rfl) (pa_cons (pv 0) pa_nil)) (pe_one (pe_callB (cr_all rfl : CallR _ _ (rAll K)) (by rfl) B.all PyProof.Rows.boot_all (pa_cons (pe_lc rfl scis_set_below.nd (pi_seqX (pv 0) : PI _ _ _ (iSeqX K _)) (blkOk_by (own := [("own", 2)]) (by kernel_rfl)) (fun _ _ _ _ _ => (pg_name (i := 2) scis_set_below.nd rfl (by first | exact Or.inl rfl | exact Or.inr rfl))) (fun _ _ _ _ _ => pts_nil) (fun _ _ _ _ _ => (pe_chain op_le op_lt pe_int (pv 2) (pv 1)))) pa_nil))))))), ?_⟩
  rintro F vs ds r ⟨thing, many, rfl, hp, rfl⟩ hv
  obtain ⟨v_thing, v_many, rfl, r_thing, r_many⟩ := dq2 hv
  replace r_thing : Rp K F v_thing thing := r_thing
  replace r_many : Rp K F v_many many := r_many
  refine (er_retE (ev_and (ev_call (ea_cons (ev_var (i := 0) rfl r_thing) ea_nil) (r1_mk True.intro)) fun h2 => (ev_and (ev_call (ea_cons (ev_var (i := 0) rfl r_thing) ea_nil) (.inr (r1_mk ?_))) fun h1 => (ev_all (ev_lc1 (ei_tup (ev_var (i := 0) rfl r_thing)) (fun F1 v1 x1 s1 hx1 r1 => lcb_name ⟨rfl, (ev_chain ev_int (ev_var (i := 2) rfl r1) (ev_var (i := 1) rfl (r_many.mono s1)))⟩))))) ?_)
  -- pre of ascends(thing)
  -- return are_numbers(thing) and ascends(thing) and all([0 <= own < many for own in thing])
  · obtain ⟨m, rfl, g⟩ := hp
    exact ⟨g.asc, g.few⟩
  · obtain ⟨m, rfl, g⟩ := hp
    refine toB ?_
    show (true && (true && _)) = true
    rw [Bool.true_and, Bool.true_and]
    refine all_id fun x hx => ?_
    have := g.low x hx
    show (decide (0 ≤ x) && decide (x < (m : Int))) = true
    rw [decide_eq_true (by omega), decide_eq_true (by omega)]
    rfl

theorem scsure_places : FnScope ["places", "many", "own"] ["places", "many"] (defScope (top 18)) := ⟨rfl, rfl, rfl, by decide +kernel, rfl, by decide +kernel, by decide +kernel⟩
theorem c_sure_places (B : Bn mg) (D : DefIn K mg "sure_places" (top 18)) (c_is_set_below : C8.Cal P w K mg base 3 "is_set_below" (SpG K R_is_set_below) []) (c_tupled : C8.Cal P w K mg base 6 "tupled" (SpG K (R_tupled 4)) []) : C8.Cal P w K mg base 7 "sure_places" (SpG K R_sure_places) [] := by
  refine cal_pure (R := R_sure_places) D scsure_places (fun _ _ _ _ _ _ us hl => match us, hl with | [_, _], _ => rfl) (by
    rintro ds r ⟨_, _, rfl, _⟩; rfl) fun f cdv A outer s H E hr => ⟨_, (pss_cons (ps_set (i := 2) scsure_places.nd rfl (by first | exact Or.inl rfl | exact Or.inr rfl) (C8.pe_c c_tupled hr (by decide) (by rfl) (pa_cons (pv 0) pa_nil)))
    (pss_cons (ps_if (pt_not (pt_val (C8.pe_c c_is_set_below hr (by decide) (by rfl) (pa_cons (pv 2) (pa_cons (pv 1) pa_nil))))) (pss_one ps_never) pss_nil)
    (pss_one (ps_ret (pv 2))))), ?_⟩
  rintro F vs ds r ⟨d, n, rfl, sv, m, hm, hd, hp, hg, rfl⟩ hv
  obtain ⟨v_places, v_many, rfl, r_places, r_many⟩ := dq2 hv
  replace r_many : Rp K F v_many n := r_many
  refine (er_set (ev_call (ea_consD (evd_var (i := 0) rfl r_places) ea_nil) (R_tupled_mk (x := sv) ?_ ?_)) fun F1 v1 s1 r1 => (er_if (et_not (et_val (ev_call (ea_cons (ev_var (i := 2) rfl r1) (ea_cons (ev_var (i := 1) rfl (r_many.mono s1)) ea_nil)) (r2_mk ?_)))) (fun h1 => (er_never ?_)) (fun h1 => (er_next (er_retE (ev_var (i := 2) rfl r1) ?_)))))
  -- pre of tupled(places)
  -- pre of tupled(places)
  -- pre of is_set_below(own, many)
  -- never: raise
  -- return own
  · exact hd
  · exact hp
  · exact ⟨m, hm, hg⟩
  · cases h1
  · rfl

theorem scplan_turned : FnScope ["plan", "places", "place", "bit"] ["plan", "places"] (defScope (top 19)) := ⟨rfl, rfl, rfl, by decide +kernel, rfl, by decide +kernel, by decide +kernel⟩
theorem c_plan_turned (B : Bn mg) (D : DefIn K mg "plan_turned" (top 19)) : C8.Cal P w K mg base 1 "plan_turned" (SpG K R_plan_turned) [] := by
  refine cal_pure (R := R_plan_turned) D scplan_turned (fun _ _ _ _ _ _ us hl => match us, hl with | [_, _], _ => rfl) (by
    rintro ds r ⟨_, _, rfl, _⟩; rfl) fun f cdv A outer s H E hr => ⟨_, (pss_one (ps_ret (pe_callTy (cr_tupleX : CallR _ _ (rTupleX K)) (by rfl) B.tuple PyProof.Rows.boot_tuple (pa_cons (pe_lc rfl scplan_turned.nd (pi_enumX (by rfl) B.enumerate (pa_cons (pv 0) pa_nil) : PI _ _ _ (iEnumX K _)) (blkOk_by (own := [("place", 2), ("bit", 3)]) (by kernel_rfl)) (fun _ _ _ _ _ => (pg_tup (n := 2) rfl (pgs_cons (pg_name (i := 2) scplan_turned.nd rfl (by first | exact Or.inl rfl | exact Or.inr rfl)) (pgs_cons (pg_name (i := 3) scplan_turned.nd rfl (by first | exact Or.inl rfl | exact Or.inr rfl)) pgs_nil)) : PG _ _ (gTup K 2 _))) (fun _ _ _ _ _ => pts_nil) (fun _ _ _ _ _ => (pe_ifExp (pt_cmpR (op_inX hr.units : OpR _ _ (rInX K false)) (pv 2) (pv 1) (by rfl)) (pe_op op_sub pe_int (pv 3)) (pv 3)))) pa_nil)))), ?_⟩
  rintro F vs ds r ⟨plan, places, rfl, hp, rfl⟩ hv
  obtain ⟨v_plan, v_places, rfl, r_plan, r_places⟩ := dq2 hv
  replace r_plan : Rp K F v_plan plan := r_plan
  replace r_places : Rp K F v_places places := r_places
  refine (er_retE (ev_tupL (ev_lc1 (ei_enumT (ev_var (i := 0) rfl r_plan)) (fun F1 v1 x1 s1 hx1 r1 => lcb_two r1 fun u1 w1 ru1 rw1 => ⟨rfl, (ev_if (et_test (ev_inT (ev_var (i := 2) rfl ru1) (ev_var (i := 1) rfl (r_places.mono s1)))) (fun h2 => (ev_i0 ev_int (ev_var (i := 3) rfl rw1))) (fun h2 => (ev_var (i := 3) rfl rw1)))⟩))) ?_)
  -- return tuple([1 - bit if place in places else bit for place, bit in enumerate(plan)])
  rfl

theorem scturned_houses : FnScope ["houses", "places", "own", "told", "lot", "plan"] ["houses", "places"] (defScope (top 24)) := ⟨rfl, rfl, rfl, by decide +kernel, rfl, by decide +kernel, by decide +kernel⟩
theorem c_turned_houses (B : Bn mg) (D : DefIn K mg "turned_houses" (top 24)) (c_plan_turned : C8.Cal P w K mg base 1 "plan_turned" (SpG K R_plan_turned) []) (c_sure_houses : C8.Cal P w K mg base 7 "sure_houses" (SpG K R_sure_houses) []) (c_sure_places : C8.Cal P w K mg base 7 "sure_places" (SpG K R_sure_places) []) : C8.Cal P w K mg base 8 "turned_houses" (SpG K R_turned_houses) [] := by
  refine cal_pure (R := R_turned_houses) D scturned_houses (fun _ _ _ _ _ _ us hl => match us, hl with | [_, _], _ => rfl) (by
    rintro ds r ⟨_, _, rfl, _⟩; rfl) fun f cdv A outer s H E hr => ⟨_, (pss_cons (ps_set (i := 2) scturned_houses.nd rfl (by first | exact Or.inl rfl | exact Or.inr rfl) (C8.pe_c c_sure_houses hr (by decide) (by rfl) (pa_cons (pv 0) pa_nil)))
    (pss_cons (ps_set (i := 3) scturned_houses.nd rfl (by first | exact Or.inl rfl | exact Or.inr rfl) (C8.pe_c c_sure_places hr (by decide) (by rfl) (pa_cons (pv 1) (pa_cons (pe_callB (cr_lenX : CallR _ _ (rLenX K)) (by rfl) B.len PySem.boot_len (pa_cons (pe_ix (ix_seq : IxR _ (rIx K)) (pe_ix (ix_seq : IxR _ (rIx K)) (pv 2) pe_int (fun _ _ => rfl)) pe_int (fun _ _ => rfl)) pa_nil)) pa_nil))))
    (pss_one (ps_ret (pe_callTy (cr_tupleX : CallR _ _ (rTupleX K)) (by rfl) B.tuple PyProof.Rows.boot_tuple (pa_cons (pe_lc rfl scturned_houses.nd (pi_seqX (pv 2) : PI _ _ _ (iSeqX K _)) (blkOk_by (own := [("lot", 4)]) (by kernel_rfl)) (fun _ _ _ _ _ => (pg_name (i := 4) scturned_houses.nd rfl (by first | exact Or.inl rfl | exact Or.inr rfl))) (fun _ _ _ _ _ => pts_nil) (fun _ _ _ _ _ => (pe_callTy (cr_tupleX : CallR _ _ (rTupleX K)) (by rfl) B.tuple PyProof.Rows.boot_tuple (pa_cons (pe_callB (cr_sortX hr.units : CallR _ _ (rSortX K)) (by rfl) B.sorted PyProof.Rows.boot_sorted (pa_cons (pe_lc rfl scturned_houses.nd (pi_seqX (pv 4) : PI _ _ _ (iSeqX K _)) (blkOk_by (own := [("plan", 5)]) (by kernel_rfl)) (fun _ _ _ _ _ => (pg_name (i := 5) scturned_houses.nd rfl (by first | exact Or.inl rfl | exact Or.inr rfl))) (fun _ _ _ _ _ => pts_nil) (fun _ _ _ _ _ => (C8.pe_c c_plan_turned hr (by decide) (by rfl) (pa_cons (pv 5) (pa_cons (pv 3) pa_nil))))) pa_nil)) pa_nil)))) pa_nil)))))), ?_⟩
  rintro F vs ds r ⟨d, e, rfl, hs, ks, n, hd, hp, hg, he, hq, hk, rfl⟩ hv
  obtain ⟨v_houses, v_places, rfl, r_houses, r_places⟩ := dq2 hv
  refine (er_set (ev_call (ea_consD (evd_var (i := 0) rfl r_houses) ea_nil) (R_sure_houses_mk (hs := hs) (n := n) hd hp hg)) fun F1 v1 s1 r1 => (er_set (ev_call (ea_consD (evd_var (i := 1) rfl (dp_mono s1 _ _ r_places)) (ea_cons (ev_lenT (ev_nthT (ev_nthT (ev_var (i := 2) rfl r1) ev_int ?_) ev_int ?_)) ea_nil)) (R_sure_places_mk (s := ks) (m := n) ?_ he hq hk)) fun F2 v2 s2 r2 => (er_retE (ev_tupL (ev_lc1 (ei_tup (ev_var (i := 2) rfl (r1.mono s2))) (fun F3 v3 x3 s3 hx3 r3 => lcb_name ⟨rfl, (ev_tupL (ev_sort (ev_lc1 (ei_tup (ev_var (i := 4) rfl r3)) (fun F4 v4 x4 s4 hx4 r4 => lcb_name ⟨rfl, (ev_call (ea_cons (ev_var (i := 5) rfl r4) (ea_cons (ev_var (i := 3) rfl (r2.mono (s3.trans s4))) ea_nil)) (r2_mk True.intro))⟩)) ?_))⟩))) ?_)))
  -- index: own[0]
  -- index: own[0][0]
  -- pre of sure_places(places, len(own[0][0]))
  -- sortable
  -- return tuple([tuple(sorted([plan_turned(plan, told) for plan in lot])) for lot in own])
  · exact len0 hg.ne
  · exact len0 (hg.lots _ (mem_nth0 hg.ne)).ne
  · rw [hg.len00]
  · refine .inl fun dd hdd => ?_
    obtain ⟨q, hq2, rfl⟩ := List.mem_map.mp hdd
    obtain ⟨x, hx, rfl⟩ := List.mem_map.mp hq2
    have hl : (turnV x ks.items).items.length = n := by rw [turn_len, (hg.lots _ hx3).len hx]
    cases e1 : (turnV x ks.items).items with
    | nil => rw [e1] at hl; exact absurd hl (by have := hg.n1.1; simp; omega)
    | cons a r => exact ⟨_, _, by show PyData.tuple ((turnV x ks.items).items.map Datum.toD) = _; rw [e1]; rfl⟩
  · rfl

theorem scbag_by : FnScope ["plans", "times", "plan", "own"] ["plans", "times"] (defScope (top 26)) := ⟨rfl, rfl, rfl, by decide +kernel, rfl, by decide +kernel, by decide +kernel⟩
theorem c_bag_by (B : Bn mg) (D : DefIn K mg "bag_by" (top 26)) : C8.Cal P w K mg base 1 "bag_by" (SpG K R_bag_by) [] := by
  refine cal_pure (R := R_bag_by) D scbag_by (fun _ _ _ _ _ _ us hl => match us, hl with | [_, _], _ => rfl) (by
    rintro ds r ⟨_, _, rfl, _⟩; rfl) fun f cdv A outer s H E hr => ⟨_, (pss_one (ps_ret (pe_callTy (cr_tupleX : CallR _ _ (rTupleX K)) (by rfl) B.tuple PyProof.Rows.boot_tuple (pa_cons (pe_callB (cr_sortX hr.units : CallR _ _ (rSortX K)) (by rfl) B.sorted PyProof.Rows.boot_sorted (pa_cons (pe_lc rfl scbag_by.nd (pi_zipX (by rfl) B.zip (pa_cons (pv 0) (pa_cons (pv 1) pa_nil)) : PI _ _ _ (iZipX K _)) (blkOk_by (own := [("plan", 2), ("own", 3)]) (by kernel_rfl)) (fun _ _ _ _ _ => (pg_tup (n := 2) rfl (pgs_cons (pg_name (i := 2) scbag_by.nd rfl (by first | exact Or.inl rfl | exact Or.inr rfl)) (pgs_cons (pg_name (i := 3) scbag_by.nd rfl (by first | exact Or.inl rfl | exact Or.inr rfl)) pgs_nil)) : PG _ _ (gTup K 2 _))) (fun _ _ _ _ _ => (pts_one (pt_cmpR op_gt (pv 3) pe_int (nomark _)))) (fun _ _ _ _ _ => (pe_tup (pa_cons (pv 2) (pa_cons (pv 3) pa_nil))))) pa_nil)) pa_nil)))), ?_⟩
  rintro F vs ds r ⟨plans, times, rfl, hp, rfl⟩ hv
  obtain ⟨v_plans, v_times, rfl, r_plans, r_times⟩ := dq2 hv
  replace r_plans : Rp K F v_plans plans := r_plans
  replace r_times : Rp K F v_times times := r_times
  refine (er_retE (ev_tupL (ev_sort (ev_lc (ei_zip2 (ez_tup (ev_var (i := 0) rfl r_plans)) (ez_list (ev_var (i := 1) rfl r_times)) ?_) (fun F1 v1 x1 s1 hx1 r1 => lcb_two r1 fun u1 w1 ru1 rw1 => ⟨rfl, (et_test (ev_b0 (ev_var (i := 3) rfl rw1) ev_int)), fun hp1 => (ev_d2 (ev_var (i := 2) rfl ru1) (ev_var (i := 3) rfl rw1))⟩)) ?_)) ?_)
  -- zip lengths: zip(plans, times)
  -- sortable
  -- return tuple(sorted([(plan, own) for plan, own in zip(plans, times) if own > 0]))
  · exact hp
  · exact PySem.W.Sortable.tuples fun b => ⟨_, _, rfl⟩
  · rfl

theorem filter_take {α : Type} {p : α → Bool} {xs : List α} {i : Nat} {x : α} (h : xs[i]? = some x) : (xs.take (i + 1)).filter p = (xs.take i).filter p ++ (if p x = true then [x] else []) := by
  rw [List.take_add_one, h, List.filter_append]
  congr 1
  by_cases hp : p x = true
  · simp [hp]
  · simp [hp]
theorem scdeals_of : FnScope ["lots", "supply", "found", "plan", "rest", "own", "bit"] ["lots", "supply"] (defScope (top 41)) := ⟨rfl, rfl, rfl, by decide +kernel, rfl, by decide +kernel, by decide +kernel⟩
theorem c_deals_of (B : Bn mg) (D : DefIn K mg "deals_of" (top 41)) : C8.Cal P w K mg base 1 "deals_of" (SpG K R_deals_of) [] := by
  refine cal_pure (R := R_deals_of) D scdeals_of (fun _ _ _ _ _ _ us hl => match us, hl with | [_, _], _ => rfl) (by
    rintro ds r ⟨_, _, rfl, _⟩; rfl) fun f cdv A outer s H E hr => ⟨_, (pss_cons (ps_set (i := 2) scdeals_of.nd rfl (by first | exact Or.inl rfl | exact Or.inr rfl) (pe_lst pa_nil))
    (pss_cons (ps_for PassesOwn.never rfl (pi_seqX (pe_ix (ix_seq : IxR _ (rIx K)) (pv 0) pe_int (fun _ _ => rfl)) : PI _ _ _ (iSeqX K _)) (pg_name (i := 3) scdeals_of.nd rfl (by first | exact Or.inl rfl | exact Or.inr rfl)) (pss_cons (ps_set (i := 4) scdeals_of.nd rfl (by first | exact Or.inl rfl | exact Or.inr rfl) (pe_callTy (cr_tupleX : CallR _ _ (rTupleX K)) (by rfl) B.tuple PyProof.Rows.boot_tuple (pa_cons (pe_lc rfl scdeals_of.nd (pi_zipX (by rfl) B.zip (pa_cons (pv 1) (pa_cons (pv 3) pa_nil)) : PI _ _ _ (iZipX K _)) (blkOk_by (own := [("own", 5), ("bit", 6)]) (by kernel_rfl)) (fun _ _ _ _ _ => (pg_tup (n := 2) rfl (pgs_cons (pg_name (i := 5) scdeals_of.nd rfl (by first | exact Or.inl rfl | exact Or.inr rfl)) (pgs_cons (pg_name (i := 6) scdeals_of.nd rfl (by first | exact Or.inl rfl | exact Or.inr rfl)) pgs_nil)) : PG _ _ (gTup K 2 _))) (fun _ _ _ _ _ => pts_nil) (fun _ _ _ _ _ => (pe_op op_sub (pv 5) (pv 6)))) pa_nil)))
    (pss_one (ps_if (pt_cmpR (op_inX hr.units : OpR _ _ (rInX K false)) (pv 4) (pe_ix (ix_seq : IxR _ (rIx K)) (pv 0) pe_int (fun _ _ => rfl)) (by rfl)) (pss_one (ps_expr (pe_bm PySem.F.plainAttrs_list PySem.F.slot_list_append PySem.F.type_list_append mt_append (pv 2) (pa_cons (pe_tup (pa_cons (pv 3) (pa_cons (pv 4) pa_nil))) pa_nil)))) pss_nil))))
    (pss_one (ps_ret (pv 2))))), ?_⟩
  rintro F vs ds r ⟨p, sv, rfl, hp, rfl⟩ hv
  obtain ⟨n, g, gs⟩ := hp
  obtain ⟨v_lots, v_supply, rfl, r_lots0, r_supply0⟩ := dq2 hv
  replace r_lots0 : Rp K F v_lots p := r_lots0
  replace r_supply0 : Rp K F v_supply sv := r_supply0
  refine er_cell (α := Row × Row) fresh_nil fun D F1 s1 => ?_
  have r_lots := r_lots0.mono s1
  have r_supply1 := r_supply0.mono s1
  refine elr_seq (α := Row × Row) (el_for (α := Row × Row) (ei_tup (ev_fst (ev_var (i := 0) rfl r_lots))) (fun i F' σ' ys => ∃ o3 o4, σ' = [some v_lots, some v_supply, some (.ref D), o3, o4, none, none] ∧ ys = ((p.1.items.map fun q => (q, subR sv q)).take i).filter fun z => decide (z.2 ∈ p.2.items)) (fun i F1 F2 σ' ys s h => h) ⟨none, none, rfl, rfl⟩ fun i F2 v y σ' ys s2 hy rp hp => ?_) fun F2 σ' ys s2 hp => ?_
  · obtain ⟨o3, o4, rfl, rfl⟩ := hp
    have r_supply := r_supply1.mono s2
    have hyi : (p.1.items.map fun q => (q, subR sv q))[i]? = some (y, subR sv y) := by rw [List.getElem?_map, hy]; rfl
    refine lcb_name (el_set (x := subR sv y) (ev_tupL (ev_lc1 (ei_zip2 (ez_tup (ev_var (i := 1) rfl r_supply)) (ez_tup (ev_var (i := 3) rfl rp)) ?_) (fun F1 v1 x1 s1 hx1 r1 => lcb_two r1 fun u1 w1 ru1 rw1 => ⟨rfl, (ev_i0 (ev_var (i := 5) rfl ru1) (ev_var (i := 6) rfl rw1))⟩))) fun F3 v3 s3 rr => ?_)
    · rw [gs.len, g.one.len (List.mem_of_getElem? hy)]
      exact Nat.le_refl _
    replace r_lots := (r_lots.mono s2).mono s3
    replace rp := rp.mono s3
    refine el_if (et_test (ev_inT (ev_var (i := 4) rfl rr) (ev_snd (ev_var (i := 0) rfl r_lots)))) (fun h => el_append rfl (y := (y, subR sv y)) (ev_d2 (ev_var (i := 3) rfl rp) (ev_var (i := 4) rfl rr)) ?_ fun F4 s4 => ⟨_, _, rfl, ?_⟩) (fun h => el_next fun F4 s4 => ⟨_, _, rfl, ?_⟩)
    · refine Nat.lt_of_le_of_lt (List.length_filter_le _ _) ?_
      rw [List.length_take, List.length_map]
      have := g.one.small
      unfold sizeLine
      omega
    · rw [filter_take hyi, if_pos h]
    · rw [filter_take hyi, if_neg (by rw [h]; exact fun z => nomatch z), List.append_nil]
  · obtain ⟨o3, o4, rfl, rfl⟩ := hp
    refine elr_thaw fun F3 s3 r3 => er_retE (ev_var (i := 2) rfl r3) ?_
    unfold dealsV
    rw [List.take_of_length_le (by rw [List.length_map]; exact Nat.le_refl _)]

theorem wRows_len {p : Lots} {n : Nat} : (wRows p n).length = n + 2 := by
  unfold wRows
  rw [List.length_append, List.length_map, List.length_range]
  rfl
theorem wRows_row {p : Lots} {n i : Nat} (h : i < n) : (wRows p n).getD i [] = (p.1.items ++ p.2.items).map fun q => q.items.getD i 0 := by
  unfold wRows
  rw [Lp.getD_app, List.length_map, List.length_range, if_pos h, Lp.getD_rm h]
theorem wRows_a {p : Lots} {n : Nat} : (wRows p n).getD n [] = List.replicate p.1.items.length 1 ++ List.replicate p.2.items.length 0 := by
  unfold wRows
  rw [Lp.getD_app, List.length_map, List.length_range, if_neg (by omega), Nat.sub_self]
  rfl
theorem wRows_b {p : Lots} {n : Nat} : (wRows p n).getD (n + 1) [] = List.replicate p.1.items.length 0 ++ List.replicate p.2.items.length 1 := by
  unfold wRows
  rw [Lp.getD_app, List.length_map, List.length_range, if_neg (by omega), show n + 1 - n = 1 by omega]
  rfl
theorem wRows_cols {p : Lots} {n : Nat} : ∀ row ∈ wRows p n, row.length = p.1.items.length + p.2.items.length := by
  intro row hr
  unfold wRows at hr
  rcases List.mem_append.mp hr with hr | hr
  · obtain ⟨k, _, rfl⟩ := List.mem_map.mp hr
    rw [List.length_map, List.length_append]
  · simp only [List.mem_cons, List.not_mem_nil, or_false] at hr
    rcases hr with rfl | rfl <;> simp
theorem entL_le {tb : List (List Int)} {M : Nat} (h : ∀ row ∈ tb, ∀ x ∈ row, x.natAbs ≤ M) (i j : Nat) : (entL tb i j).natAbs ≤ M := by
  unfold entL
  by_cases hi : i < tb.length
  · by_cases hj : j < (tb.getD i []).length
    · exact h _ (Lp.getD_mem hi) _ (Lp.getD_mem hj)
    · rw [List.getD_eq_getElem?_getD (l := tb.getD i []), List.getElem?_eq_none (by omega)]
      exact Nat.zero_le _
  · rw [List.getD_eq_getElem?_getD (l := tb), List.getElem?_eq_none (by omega)]
    exact Nat.zero_le _
theorem getD_le {xs : List Int} {M : Nat} (h : ∀ x ∈ xs, x.natAbs ≤ M) (j : Nat) : (xs.getD j 0).natAbs ≤ M := by
  by_cases hj : j < xs.length
  · exact h _ (Lp.getD_mem hj)
  · rw [List.getD_eq_getElem?_getD, List.getElem?_eq_none (by omega)]
    exact Nat.zero_le _
theorem getD_rep0 {n j : Nat} : (List.replicate n (0 : Int)).getD j 0 = 0 := Lp.getD_rep
theorem wRows_small {n : Nat} {p : Lots} (g : GLots n p) : ∀ row ∈ wRows p n, ∀ x ∈ row, x.natAbs ≤ 1 := by
  intro row hr x hx
  unfold wRows at hr
  rcases List.mem_append.mp hr with hr | hr
  · obtain ⟨k, hk, rfl⟩ := List.mem_map.mp hr
    obtain ⟨q, hq, rfl⟩ := List.mem_map.mp hx
    have hq2 : GPlan n q := by
      rcases List.mem_append.mp hq with h | h
      · exact g.one.plans q h
      · exact g.two.plans q h
    refine getD_le (fun y hy => ?_) k
    have := hq2.bits y hy
    omega
  · simp only [List.mem_cons, List.not_mem_nil, or_false] at hr
    rcases hr with rfl | rfl
    all_goals
      rcases List.mem_append.mp hx with h | h
      all_goals
        rw [List.eq_of_mem_replicate h]
        decide
theorem fact_le {m : Nat} (h : m ≤ 7) : (m + 1) * (1 * (Lp.fct m * Lp.pw 2 m)) < 2 ^ 4000 := by
  have h1 : (m + 1) * (1 * (Lp.fct m * Lp.pw 2 m)) < 2 ^ 30 := by
    have : m = 0 ∨ m = 1 ∨ m = 2 ∨ m = 3 ∨ m = 4 ∨ m = 5 ∨ m = 6 ∨ m = 7 := by omega
    rcases this with rfl | rfl | rfl | rfl | rfl | rfl | rfl | rfl <;> decide
  exact Nat.lt_of_lt_of_le h1 (Nat.pow_le_pow_right (by decide) (by decide))
theorem weigh_ok {n : Nat} {p : Lots} {sv : Row} (g : GLots n p) (f : Few n p) (gs : GSup n sv) : SolveOk (wRows p n) (sv.items ++ [1, 1]) (List.replicate (p.1.items.length + p.2.items.length) 0) (p.1.items.length + p.2.items.length) (n + 2) := by
  have hf := f.1
  have hn := f.2
  refine ⟨⟨wRows_len, wRows_cols, by rw [List.length_append, gs.len]; rfl, List.length_replicate, fun r _ => ?_, fun d _ _ => ?_⟩, by omega, by omega, 2, 1, fun j r hj hr => ?_, fun k j hk hj => ?_, Nat.le_refl _, fact_le (by omega)⟩
  · have h : ∀ x ∈ sv.items ++ [1, 1], 0 ≤ x := fun x hx => by
      rcases List.mem_append.mp hx with h | h
      · exact (gs.bits x h).1
      · simp only [List.mem_cons, List.not_mem_nil, or_false] at h
        omega
    by_cases hr : r < (sv.items ++ [1, 1]).length
    · exact h _ (Lp.getD_mem hr)
    · rw [List.getD_eq_getElem?_getD, List.getElem?_eq_none (by omega)]
      exact Int.le_refl _
  · rw [Lp.sm_zero fun j _ => by rw [getD_rep0, Int.zero_mul]]
    exact Int.le_refl _
  · unfold Lp.colA
    split
    · have := entL_le (wRows_small g) r j
      omega
    · split
      · unfold Lp.unit
        split <;> decide
      · refine getD_le (fun x hx => ?_) r
        rcases List.mem_append.mp hx with h | h
        · have := gs.bits x h
          omega
        · simp only [List.mem_cons, List.not_mem_nil, or_false] at h
          omega
  · unfold Lp.csL
    split
    · split <;> decide
    · split
      · rw [getD_rep0]; decide
      · decide
theorem scweighed : FnScope ["lots", "supply", "rows", "place", "lot", "plan"] ["lots", "supply"] (defScope (top 42)) := ⟨rfl, rfl, rfl, by decide +kernel, rfl, by decide +kernel, by decide +kernel⟩
theorem c_weighed (B : Bn mg) (D : DefIn K mg "weighed" (top 42)) (c_solved : C8.Cal P w K mg base 3 "solved" (SpG K R_solved) []) : C8.Cal P w K mg base 4 "weighed" (SpG K R_weighed) [] := by
  refine cal_pure (R := R_weighed) D scweighed (fun _ _ _ _ _ _ us hl => match us, hl with | [_, _], _ => rfl) (by
    rintro ds r ⟨_, _, _, rfl, _⟩; rfl) fun f cdv A outer s H E hr => ⟨_, (pss_cons (ps_setLc (i := 2) rfl scweighed.nd rfl rfl (by rfl) (pi_range1 (by rfl) B.range (pa_cons (pe_callB (cr_lenX : CallR _ _ (rLenX K)) (by rfl) B.len PySem.boot_len (pa_cons (pv 1) pa_nil)) pa_nil)) (blkOk_by (own := [("place", 3)]) (by kernel_rfl)) (fun _ _ _ _ _ => (pg_name (i := 3) scweighed.nd rfl (by first | exact Or.inl rfl | exact Or.inr rfl))) (fun _ _ _ _ _ => pts_nil) (fun _ _ _ _ _ => (pe_lc2 rfl scweighed.nd (pi_seqX (pv 0) : PI _ _ _ (iSeqX K _)) (blkOk_by (own := [("lot", 4), ("plan", 5)]) (by kernel_rfl)) (vs1 := [5]) (by decide) (fun _ _ _ _ _ => (pg_name (i := 4) scweighed.nd rfl (by first | exact Or.inl rfl | exact Or.inr rfl))) (fun _ _ _ _ _ => pts_nil) (fun _ _ _ _ _ => (pi_seqX (pv 4) : PI _ _ _ (iSeqX K _))) (fun _ _ _ _ _ => (pg_name (i := 5) scweighed.nd rfl (by first | exact Or.inl rfl | exact Or.inr rfl))) (fun _ _ _ _ _ => pts_nil) (fun _ _ _ _ _ => (pe_ix (ix_seq : IxR _ (rIx K)) (pv 5) (pv 3) (fun _ _ => rfl))))))
    (pss_cons (ps_set (i := 2) scweighed.nd rfl (by first | exact Or.inl rfl | exact Or.inr rfl) (pe_op op_catL (pv 2) (pe_lst (pa_cons (pe_op op_catL (pe_op op_rep (pe_lst (pa_cons pe_int pa_nil)) (pe_callB (cr_lenX : CallR _ _ (rLenX K)) (by rfl) B.len PySem.boot_len (pa_cons (pe_ix (ix_seq : IxR _ (rIx K)) (pv 0) pe_int (fun _ _ => rfl)) pa_nil))) (pe_op op_rep (pe_lst (pa_cons pe_int pa_nil)) (pe_callB (cr_lenX : CallR _ _ (rLenX K)) (by rfl) B.len PySem.boot_len (pa_cons (pe_ix (ix_seq : IxR _ (rIx K)) (pv 0) pe_int (fun _ _ => rfl)) pa_nil)))) (pa_cons (pe_op op_catL (pe_op op_rep (pe_lst (pa_cons pe_int pa_nil)) (pe_callB (cr_lenX : CallR _ _ (rLenX K)) (by rfl) B.len PySem.boot_len (pa_cons (pe_ix (ix_seq : IxR _ (rIx K)) (pv 0) pe_int (fun _ _ => rfl)) pa_nil))) (pe_op op_rep (pe_lst (pa_cons pe_int pa_nil)) (pe_callB (cr_lenX : CallR _ _ (rLenX K)) (by rfl) B.len PySem.boot_len (pa_cons (pe_ix (ix_seq : IxR _ (rIx K)) (pv 0) pe_int (fun _ _ => rfl)) pa_nil)))) pa_nil)))))
    (pss_one (ps_ret (C8.pe_c c_solved hr (by decide) (by rfl) (pa_cons (pv 2) (pa_cons (pe_op op_catL (pe_callTy (cr_listX : CallR _ _ (rListX K)) (by rfl) B.list PyProof.Rows.boot_list (pa_cons (pv 1) pa_nil)) (pe_lst (pa_cons pe_int (pa_cons pe_int pa_nil)))) (pa_cons (pe_op op_rep (pe_lst (pa_cons pe_int pa_nil)) (pe_op op_add (pe_callB (cr_lenX : CallR _ _ (rLenX K)) (by rfl) B.len PySem.boot_len (pa_cons (pe_ix (ix_seq : IxR _ (rIx K)) (pv 0) pe_int (fun _ _ => rfl)) pa_nil)) (pe_callB (cr_lenX : CallR _ _ (rLenX K)) (by rfl) B.len PySem.boot_len (pa_cons (pe_ix (ix_seq : IxR _ (rIx K)) (pv 0) pe_int (fun _ _ => rfl)) pa_nil)))) pa_nil)))))))), ?_⟩
  rintro F vs ds r ⟨p, sv, n, rfl, g, fw, gs, rfl⟩ hv
  obtain ⟨v_lots, v_supply, rfl, r_lots, r_supply⟩ := dq2 hv
  replace r_lots : Rp K F v_lots p := r_lots
  replace r_supply : Rp K F v_supply sv := r_supply
  have hf := fw.1
  have hn := fw.2
  have hs := gs.len
  refine er_set (x := (List.range n).map fun k => (p.1.items ++ p.2.items).map fun q => q.items.getD k 0) (Ev.cast (ev_lc1 (ei_rng1 (ev_lenT (ev_var (i := 1) rfl r_supply)) ?_ ?_) (fun F1 v1 x1 s1 hx1 r1 => lcb_name ⟨rfl, (ev_lc2 (ei_tup (ev_p2t (ev_var (i := 0) rfl (r_lots.mono s1)))) ?_ (fun F2 v2 x2 s2 hx2 r2 => lcb_name ⟨rfl, (ei_tup (ev_var (i := 4) rfl r2)), fun F3 v3 x3 s3 hx3 r3 => lcb_name ⟨rfl, (ev_nthT (ev_var (i := 5) rfl r3) (ev_var (i := 3) rfl (r1.mono (s2.trans s3))) ?_)⟩⟩))⟩)) ?_) fun F1 v1 s1 r1 => ?_
  · omega
  · omega
  · show ([p.1, p.2].flatMap fun l => l.items.map fun q => nth q.items x1).length ≤ sizeLine
    simp only [List.flatMap_cons, List.flatMap_nil, List.length_append, List.length_map, List.length_nil]
    unfold sizeLine
    omega
  · have h1 := mem_rangeL hx1
    have hl : x3.items.length = n := by
      simp only [List.mem_cons, List.not_mem_nil, or_false] at hx2
      rcases hx2 with rfl | rfl
      · exact g.one.len hx3
      · exact g.two.len hx3
    omega
  · rw [hs, range_map]
    refine List.map_congr_left fun k hk => ?_
    simp only [List.flatMap_cons, List.flatMap_nil, List.append_nil, List.map_append]
    rfl
  have r_lots1 := r_lots.mono s1
  have r_supply1 := r_supply.mono s1
  refine er_set (x := wRows p n) (Ev.cast (ev_catL (ev_var (i := 2) rfl r1) (ev_dL (es_cons (ev_catL (ev_rep ev_int (ev_lenT (ev_fst (ev_var (i := 0) rfl r_lots1))) ?_) (ev_rep ev_int (ev_lenT (ev_snd (ev_var (i := 0) rfl r_lots1))) ?_) ?_) (es_cons (ev_catL (ev_rep ev_int (ev_lenT (ev_fst (ev_var (i := 0) rfl r_lots1))) ?_) (ev_rep ev_int (ev_lenT (ev_snd (ev_var (i := 0) rfl r_lots1))) ?_) ?_) es_nil))) ?_) ?_) fun F2 v2 s2 r2 => ?_
  · omega
  · omega
  · rw [List.length_replicate, List.length_replicate]
    unfold sizeLine
    omega
  · omega
  · omega
  · rw [List.length_replicate, List.length_replicate]
    unfold sizeLine
    omega
  · rw [List.length_map, List.length_range]
    show n + 2 ≤ sizeLine
    unfold sizeLine
    omega
  · unfold wRows
    simp only [Int.toNat_natCast]
  have r_lots2 := r_lots1.mono s2
  have r_supply2 := r_supply1.mono s2
  have ok := weigh_ok g fw gs
  refine er_retD (evd_call (ea_cons (ev_var (i := 2) rfl r2) (ea_cons (x := sv.items ++ [1, 1]) (ev_catL (ev_listT (ev_var (i := 1) rfl r_supply2)) (ev_dL (es_cons ev_int (es_cons ev_int es_nil))) ?_) (ea_cons (x := List.replicate (p.1.items.length + p.2.items.length) 0) (Ev.cast (ev_rep ev_int (ev_i0 (ev_lenT (ev_fst (ev_var (i := 0) rfl r_lots2))) (ev_lenT (ev_snd (ev_var (i := 0) rfl r_lots2)))) ?_) ?_) ea_nil))) ⟨_, _, _, _, _, rfl, ok, rfl⟩) ?_
  · show sv.items.length + 2 ≤ sizeLine
    unfold sizeLine
    omega
  · omega
  · rw [show ((p.1.items.length : Int) + (p.2.items.length : Int)).toNat = p.1.items.length + p.2.items.length by omega]
  · unfold weighedV
    rw [hs]

theorem weighed_len {n : Nat} {p : Lots} {sv : Row} (g : GLots n p) (f : Few n p) (gs : GSup n sv) {w : Int} {ws ds : List Int} (e : weighedV p sv = .best w ws ds) : ws.length = p.1.items.length + p.2.items.length := by
  have h := Lp.solvedL_says (weigh_ok g f gs).fit
  rw [← gs.len] at h
  rw [show Lp.solvedL _ _ _ _ _ = weighedV p sv from rfl, e] at h
  exact h.2.1
theorem scdeal_by : FnScope ["lots", "supply", "deals", "told", "first", "own"] ["lots", "supply"] (defScope (top 43)) := ⟨rfl, rfl, rfl, by decide +kernel, rfl, by decide +kernel, by decide +kernel⟩
theorem c_deal_by (B : Bn mg) (D : DefIn K mg "deal_by" (top 43)) (c_bag_by : C8.Cal P w K mg base 1 "bag_by" (SpG K R_bag_by) []) (c_deals_of : C8.Cal P w K mg base 1 "deals_of" (SpG K R_deals_of) []) (c_weighed : C8.Cal P w K mg base 4 "weighed" (SpG K R_weighed) []) : C8.Cal P w K mg base 5 "deal_by" (SpG K R_deal_by) [] := by
  refine cal_pure (R := R_deal_by) D scdeal_by (fun _ _ _ _ _ _ us hl => match us, hl with | [_, _], _ => rfl) (by
    rintro ds r ⟨_, _, _, rfl, _⟩; rfl) fun f cdv A outer s H E hr => ⟨_, (pss_cons (ps_set (i := 2) scdeal_by.nd rfl (by first | exact Or.inl rfl | exact Or.inr rfl) (C8.pe_c c_deals_of hr (by decide) (by rfl) (pa_cons (pv 0) (pa_cons (pv 1) pa_nil))))
    (pss_cons (ps_if (pt_cmpR (op_neX hr.units : OpR _ _ (rNeX K)) (pv 2) (pe_lst pa_nil) (nomark _)) (pss_one (ps_ret (pe_tup (pa_cons pe_str (pa_cons (pe_ix (ix_seq : IxR _ (rIx K)) (pe_ix (ix_seq : IxR _ (rIx K)) (pv 2) pe_int (fun _ _ => rfl)) pe_int (fun _ _ => rfl)) (pa_cons (pe_ix (ix_seq : IxR _ (rIx K)) (pe_ix (ix_seq : IxR _ (rIx K)) (pv 2) pe_int (fun _ _ => rfl)) pe_int (fun _ _ => rfl)) pa_nil)))))) pss_nil)
    (pss_cons (ps_set (i := 3) scdeal_by.nd rfl (by first | exact Or.inl rfl | exact Or.inr rfl) (C8.pe_c c_weighed hr (by decide) (by rfl) (pa_cons (pv 0) (pa_cons (pv 1) pa_nil))))
    (pss_cons (ps_if (pt_cmpR (op_eqX hr.units : OpR _ _ (rEqX K)) (pe_ix (ix_seq : IxR _ (rIx K)) (pv 3) pe_int (fun _ _ => rfl)) pe_str (nomark _)) (pss_cons (ps_set (i := 4) scdeal_by.nd rfl (by first | exact Or.inl rfl | exact Or.inr rfl) (pe_callB (cr_lenX : CallR _ _ (rLenX K)) (by rfl) B.len PySem.boot_len (pa_cons (pe_ix (ix_seq : IxR _ (rIx K)) (pv 0) pe_int (fun _ _ => rfl)) pa_nil)))
    (pss_one (ps_ret (pe_tup (pa_cons pe_str (pa_cons (C8.pe_c c_bag_by hr (by decide) (by rfl) (pa_cons (pe_ix (ix_seq : IxR _ (rIx K)) (pv 0) pe_int (fun _ _ => rfl)) (pa_cons (pe_slice (sl_list : SlR _ (rSlL K)) (pe_ix (ix_seq : IxR _ (rIx K)) (pv 3) pe_int (fun _ _ => rfl)) po_none (po_some (pv 4))) pa_nil))) (pa_cons (C8.pe_c c_bag_by hr (by decide) (by rfl) (pa_cons (pe_ix (ix_seq : IxR _ (rIx K)) (pv 0) pe_int (fun _ _ => rfl)) (pa_cons (pe_slice (sl_list : SlR _ (rSlL K)) (pe_ix (ix_seq : IxR _ (rIx K)) (pv 3) pe_int (fun _ _ => rfl)) (po_some (pv 4)) po_none) pa_nil))) pa_nil))))))) pss_nil)
    (pss_one (ps_ret (pe_tup (pa_cons pe_str (pa_cons (pe_callTy (cr_tupleX : CallR _ _ (rTupleX K)) (by rfl) B.tuple PyProof.Rows.boot_tuple (pa_cons (pe_lc rfl scdeal_by.nd (pi_seqX (pe_slice (sl_list : SlR _ (rSlL K)) (pe_ix (ix_seq : IxR _ (rIx K)) (pv 3) pe_int (fun _ _ => rfl)) po_none (po_some (pe_callB (cr_lenX : CallR _ _ (rLenX K)) (by rfl) B.len PySem.boot_len (pa_cons (pv 1) pa_nil)))) : PI _ _ _ (iSeqX K _)) (blkOk_by (own := [("own", 5)]) (by kernel_rfl)) (fun _ _ _ _ _ => (pg_name (i := 5) scdeal_by.nd rfl (by first | exact Or.inl rfl | exact Or.inr rfl))) (fun _ _ _ _ _ => pts_nil) (fun _ _ _ _ _ => (pe_un un_neg (pv 5)))) pa_nil)) pa_nil))))))))), ?_⟩
  rintro F vs ds r ⟨p, sv, n, rfl, g, fw, gs, rfl⟩ hv
  obtain ⟨v_lots, v_supply, rfl, r_lots, r_supply⟩ := dq2 hv
  replace r_lots : Rp K F v_lots p := r_lots
  replace r_supply : Rp K F v_supply sv := r_supply
  refine er_set (x := dealsV p sv) (ev_call (ea_cons (ev_var (i := 0) rfl r_lots) (ea_cons (ev_var (i := 1) rfl r_supply) ea_nil)) (r2_mk ⟨n, g, gs⟩)) fun F1 v1 s1 r1 => ?_
  have r_lots1 := r_lots.mono s1
  have r_supply1 := r_supply.mono s1
  cases e : dealsV p sv with
  | cons z t =>
    rw [e] at r1
    refine er_if (b := true) (EvT.cast (et_test (ev_ne (ev_var (i := 2) rfl r1) (ev_dL es_nil))) (decide_eq_true (fun h => nomatch h))) (fun _ => er_stop (er_retD (evd_dT (ea_cons ev_str (ea_cons (x := z.1) (ev_fst (ev_nthL (ev_var (i := 2) rfl r1) ev_int ?_)) (ea_cons (x := z.2) (ev_snd (ev_nthL (ev_var (i := 2) rfl r1) ev_int ?_)) ea_nil))) (by show 3 ≤ sizeLine; decide)) ?_)) (fun h => by cases h)
    · exact len0 (fun h => nomatch h)
    · exact len0 (fun h => nomatch h)
    · unfold dealD
      rw [e]
      rfl
  | nil =>
    rw [e] at r1
    refine er_if (b := false) (EvT.cast (et_test (ev_ne (ev_var (i := 2) rfl r1) (ev_dL es_nil))) (decide_eq_false (fun h => h rfl))) (fun h => by cases h) (fun _ => er_next ?_)
    refine er_setD (evd_call (ea_cons (ev_var (i := 0) rfl r_lots1) (ea_cons (ev_var (i := 1) rfl r_supply1) ea_nil)) (R_weighed_mk g fw gs)) fun F2 v2 s2 r3 => ?_
    have r_lots2 := r_lots1.mono s2
    have r_supply2 := r_supply1.mono s2
    cases ew : weighedV p sv with
    | best w ws du =>
      rw [ew] at r3
      have hl := weighed_len g fw gs ew
      refine er_if (b := true) (EvT.cast (et_test (ev_eq (EvD.t (x := ("best" : Str)) (evd_ixT (k := 0) (evd_var (i := 3) rfl r3) ev_int rfl)) ev_str)) (decide_eq_true rfl)) (fun _ => ?_) (fun h => by cases h)
      refine er_set (x := (p.1.items.length : Int)) (ev_lenT (ev_fst (ev_var (i := 0) rfl r_lots2))) fun F3 v3 s3 rf => ?_
      have r_lots3 := r_lots2.mono s3
      replace r3 := dp_mono s3 _ _ r3
      refine er_stop (er_retD (evd_dT (ea_cons ev_str (ea_cons (x := bagV p.1 (ws.take p.1.items.length)) (ev_call (ea_cons (ev_fst (ev_var (i := 0) rfl r_lots3)) (ea_cons (x := ws.take p.1.items.length) (Ev.cast (ev_slL (EvD.t (x := ws) (evd_ixT (k := 2) (evd_var (i := 3) rfl r3) ev_int rfl)) eo_none (eo_some (ev_var (i := 4) rfl rf))) (cutL_take _)) ea_nil)) (r2_mk ?_)) (ea_cons (x := bagV p.2 (ws.drop p.1.items.length)) (ev_call (ea_cons (ev_snd (ev_var (i := 0) rfl r_lots3)) (ea_cons (x := ws.drop p.1.items.length) (Ev.cast (ev_slL (EvD.t (x := ws) (evd_ixT (k := 2) (evd_var (i := 3) rfl r3) ev_int rfl)) (eo_some (ev_var (i := 4) rfl rf)) eo_none) (cutL_drop _)) ea_nil)) (r2_mk ?_)) ea_nil))) (by show 3 ≤ sizeLine; decide)) ?_)
      · rw [List.length_take]; omega
      · rw [List.length_drop]; omega
      · unfold dealD
        rw [e, ew]
        rfl
    | none w z =>
      rw [ew] at r3
      refine er_if (b := false) (EvT.cast (et_test (ev_eq (EvD.t (x := ("none" : Str)) (evd_ixT (k := 0) (evd_var (i := 3) rfl r3) ev_int rfl)) ev_str)) (decide_eq_false (by decide))) (fun h => by cases h) (fun _ => er_next ?_)
      refine er_retD (evd_dT (ea_cons ev_str (ea_cons (x := (Tup.mk ((z.take sv.items.length).map fun x => -x) : Row)) (ev_tupL (ev_lc1 (ei_list (Ev.cast (ev_slL (EvD.t (x := z) (evd_ixT (k := 2) (evd_var (i := 3) rfl r3) ev_int rfl)) eo_none (eo_some (ev_lenT (ev_var (i := 1) rfl r_supply2)))) (cutL_take _))) (fun F1 v1 x1 s1 hx1 r1 => lcb_name ⟨rfl, (ev_u (ev_var (i := 5) rfl r1))⟩))) ea_nil)) (by show 2 ≤ sizeLine; decide)) ?_
      unfold dealD
      rw [e, ew]
      rfl

theorem everyS_len : ∀ {n : Nat}, (everyS n).length = 3 ^ n
  | 0 => rfl
  | n + 1 => by
    rw [everyS, grow, List.length_flatMap]
    have : ((everyS n).map fun own => ((([0, 1, 2] : List Int).map fun more => Tup.mk (own.items ++ [more])) : List Row).length) = List.replicate (everyS n).length 3 := by
      rw [List.eq_replicate_iff]
      exact ⟨List.length_map _, fun b hb => by
        obtain ⟨x, _, rfl⟩ := List.mem_map.mp hb
        rfl⟩
    rw [this, List.sum_replicate_nat, everyS_len, Nat.pow_succ]
theorem everyS_iff : ∀ {n : Nat} {s : Row}, s ∈ everyS n ↔ GSup n s
  | 0, s => by
    rw [everyS, List.mem_singleton]
    constructor
    · rintro rfl
      exact ⟨rfl, fun x hx => nomatch hx⟩
    · intro h
      exact tup_ext (List.length_eq_zero_iff.mp h.len)
  | n + 1, s => by
    rw [everyS, grow, List.mem_flatMap]
    constructor
    · rintro ⟨own, ho, hs⟩
      obtain ⟨m, hm, rfl⟩ := List.mem_map.mp hs
      have g := everyS_iff.mp ho
      refine ⟨by rw [List.length_append, g.len]; rfl, fun x hx => ?_⟩
      rcases List.mem_append.mp hx with h | h
      · exact g.bits x h
      · have e := List.mem_singleton.mp h
        subst e
        simp only [List.mem_cons, List.not_mem_nil, or_false] at hm
        omega
    · intro h
      have hne : s.items ≠ [] := fun e => by have := h.len; rw [e] at this; cases this
      have e := List.dropLast_concat_getLast hne
      refine ⟨Tup.mk s.items.dropLast, everyS_iff.mpr ⟨by show s.items.dropLast.length = n; rw [List.length_dropLast, h.len]; rfl, fun x hx => h.bits x (List.dropLast_subset _ hx)⟩, List.mem_map.mpr ⟨s.items.getLast hne, ?_, tup_ext e⟩⟩
      have := h.bits _ (List.getLast_mem hne)
      simp only [List.mem_cons, List.not_mem_nil, or_false]
      omega
theorem best_test {K : PySem.W.Frag} {F : Hp} {σ : L2.St} {te : TE} {r : Lp.Res} (h : EvD K F te σ (resD r)) : EvT F (tTest (tOp (rEqX K) (tOp (rIx K) te (tC (.int 0))) (tC (.str "best")))) σ (isBest r) := by
  cases r with
  | best w ws ds => exact EvT.cast (et_test (ev_eq (EvD.t (x := ("best" : Str)) (evd_ixT (k := 0) h ev_int rfl)) ev_str)) (decide_eq_true rfl)
  | none w z => exact EvT.cast (et_test (ev_eq (EvD.t (x := ("none" : Str)) (evd_ixT (k := 0) h ev_int rfl)) ev_str)) (decide_eq_false (by decide))
theorem scsupplies_by : FnScope ["lots", "found", "place", "own", "more"] ["lots"] (defScope (top 44)) := ⟨rfl, rfl, rfl, by decide +kernel, rfl, by decide +kernel, by decide +kernel⟩
theorem c_supplies_by (B : Bn mg) (D : DefIn K mg "supplies_by" (top 44)) (c_weighed : C8.Cal P w K mg base 4 "weighed" (SpG K R_weighed) []) : C8.Cal P w K mg base 5 "supplies_by" (SpG K R_supplies_by) [] := by
  refine cal_pure (R := R_supplies_by) D scsupplies_by (fun _ _ _ _ _ _ us hl => match us, hl with | [_], _ => rfl) (by
    rintro ds r ⟨_, _, rfl, _⟩; rfl) fun f cdv A outer s H E hr => ⟨_, (pss_cons (ps_set (i := 1) scsupplies_by.nd rfl (by first | exact Or.inl rfl | exact Or.inr rfl) (pe_lst (pa_cons (pe_tup pa_nil) pa_nil)))
    (pss_cons (ps_for PassesOwn.never rfl (pi_range1 (by rfl) B.range (pa_cons (pe_callB (cr_lenX : CallR _ _ (rLenX K)) (by rfl) B.len PySem.boot_len (pa_cons (pe_ix (ix_seq : IxR _ (rIx K)) (pe_ix (ix_seq : IxR _ (rIx K)) (pv 0) pe_int (fun _ _ => rfl)) pe_int (fun _ _ => rfl)) pa_nil)) pa_nil)) (pg_name (i := 2) scsupplies_by.nd rfl (by first | exact Or.inl rfl | exact Or.inr rfl)) (pss_one (ps_setLc2 (i := 1) rfl scsupplies_by.nd rfl rfl (by rfl) (pi_seqX (pv 1) : PI _ _ _ (iSeqX K _)) (blkOk_by (own := [("own", 3), ("more", 4)]) (by kernel_rfl)) (vs1 := [4]) (by decide) (fun _ _ _ _ _ => (pg_name (i := 3) scsupplies_by.nd rfl (by first | exact Or.inl rfl | exact Or.inr rfl))) (fun _ _ _ _ _ => pts_nil) (fun _ _ _ _ _ => (pi_seqX (pe_tup (pa_cons pe_int (pa_cons pe_int (pa_cons pe_int pa_nil)))) : PI _ _ _ (iSeqX K _))) (fun _ _ _ _ _ => (pg_name (i := 4) scsupplies_by.nd rfl (by first | exact Or.inl rfl | exact Or.inr rfl))) (fun _ _ _ _ _ => pts_nil) (fun _ _ _ _ _ => (pe_op (op_catA : OpR _ _ (rCatA K)) (pv 3) (pe_tup (pa_cons (pv 4) pa_nil)))))))
    (pss_one (ps_ret (pe_lc rfl scsupplies_by.nd (pi_seqX (pv 1) : PI _ _ _ (iSeqX K _)) (blkOk_by (own := [("own", 3)]) (by kernel_rfl)) (fun _ _ _ _ _ => (pg_name (i := 3) scsupplies_by.nd rfl (by first | exact Or.inl rfl | exact Or.inr rfl))) (fun _ _ _ _ _ => (pts_one (pt_cmpR (op_eqX hr.units : OpR _ _ (rEqX K)) (pe_ix (ix_seq : IxR _ (rIx K)) (C8.pe_c c_weighed hr (by decide) (by rfl) (pa_cons (pv 0) (pa_cons (pv 3) pa_nil))) pe_int (fun _ _ => rfl)) pe_str (nomark _)))) (fun _ _ _ _ _ => (pv 3))))))), ?_⟩
  rintro F vs ds r ⟨p, n, rfl, g, fw, rfl⟩ hv
  obtain ⟨v_lots, rfl, r_lots⟩ := dq1 hv
  replace r_lots : Rp K F v_lots p := r_lots
  have hn := fw.2
  refine er_set (x := everyS 0) (ev_dL (es_cons (ev_dT es_nil) es_nil)) fun F1 v1 s1 r1 => ?_
  have r_lots1 := r_lots.mono s1
  have hf0 := g.f00
  refine er_for (ei_rng1 (ev_lenT (ev_nthT (ev_fst (ev_var (i := 0) rfl r_lots1)) ev_int ?_)) ?_ ?_) (fun i F' σ' => ∃ v o2, σ' = [some v_lots, some v, o2, none, none] ∧ Rp K F' v (everyS i)) (fun i F1 F2 σ' s h => ?_) ⟨v1, none, rfl, r1⟩ (fun i F2 v y σ' s2 hy r hp => ?_) (fun F2 σ' s2 hp => ?_)
  · exact len0 g.one.ne
  · have := g.n1
    omega
  · omega
  · obtain ⟨v, o2, rfl, h⟩ := h
    exact ⟨v, o2, rfl, h.mono s⟩
  · obtain ⟨vf, o2, rfl, r2⟩ := hp
    have hi : i < n := by
      have := (List.getElem?_eq_some_iff.mp hy).1
      rw [rangeL_len, hf0] at this
      omega
    have h5 : 3 ^ i ≤ 3 ^ 5 := Nat.pow_le_pow_right (by decide) (by omega)
    refine lcb_name (en_set (x := everyS (i + 1)) (ev_lc2 (ei_list (ev_var (i := 1) rfl r2)) ?_ (fun F1 v1 x1 s1 hx1 r1 => lcb_name ⟨rfl, (ei_tup (ev_dT (es_cons ev_int (es_cons ev_int (es_cons ev_int es_nil))))), fun F2 v2 x2 s2 hx2 r2 => lcb_name ⟨rfl, (ev_catT (ev_var (i := 3) rfl (r1.mono s2)) (ev_dT (es_cons (ev_var (i := 4) rfl r2) es_nil)) ?_)⟩⟩)) fun F3 v3 s3 r3 => ⟨v3, _, rfl, r3⟩)
    · show (everyS (i + 1)).length ≤ sizeLine
      rw [everyS_len, Nat.pow_succ]
      unfold sizeLine
      omega
    · have := (everyS_iff.mp hx1).len
      show x1.items.length + 1 ≤ sizeLine
      unfold sizeLine
      omega
  · obtain ⟨vf, o2, rfl, r2⟩ := hp
    rw [rangeL_len, hf0, show ((n : Int) - 0).toNat = n by omega] at r2
    have r_lots2 := r_lots1.mono s2
    refine er_retE (x := supsV p n) (Ev.cast (ev_lc (ei_list (ev_var (i := 1) rfl r2)) (fun F3 v3 x3 s3 hx3 r3 => lcb_name ⟨rfl, best_test (evd_call (ea_cons (ev_var (i := 0) rfl (r_lots2.mono s3)) (ea_cons (ev_var (i := 3) rfl r3) ea_nil)) (R_weighed_mk g fw (everyS_iff.mp hx3))), fun hp3 => (ev_var (i := 3) rfl r3)⟩)) (List.map_id' _)) rfl

end
end Sp

set_option Elab.async false
set_option linter.all false
set_option maxRecDepth 100000
set_option maxHeartbeats 4000000
namespace Sp
open PySem PySem.Spec PyProof.Rows L2
open PySem.W (Datum DatumOrd Tup)

open Lp (entL turnedL enterL leaveL itL goL Done riseL putL negL sgL poS poN Res bf)
theorem prod_len {α β γ : Type} {xs : List α} {ys : List β} {f : α → β → γ} : (xs.flatMap fun a => ys.map fun b => f a b).length = xs.length * ys.length := by
  induction xs with
  | nil => simp
  | cons x xs ih =>
    rw [List.flatMap_cons, List.length_append, ih, List.length_map, List.length_cons, Nat.succ_mul]
    omega
theorem addR_len {n : Nat} {a b : Row} (ha : a.items.length = n) (hb : b.items.length = n) : (addR a b).items.length = n := by
  show (List.map _ _).length = n
  rw [List.length_map, List.length_zip, ha, hb, Nat.min_self]
theorem addR_sup {n : Nat} {a b : Row} (ha : GPlan n a) (hb : GPlan n b) : GSup n (addR a b) := ⟨addR_len ha.len hb.len, fun x hx => by
  obtain ⟨q, hq, rfl⟩ := List.mem_map.mp hx
  have h1 := ha.bits _ (List.of_mem_zip hq).1
  have h2 := hb.bits _ (List.of_mem_zip hq).2
  omega⟩
theorem sums_sup {n : Nat} {p : Lots} (g : GLots n p) : ∀ x ∈ sumsL p, GSup n x := fun x hx => by
  obtain ⟨a, ha, h⟩ := List.mem_flatMap.mp hx
  obtain ⟨b, hb, rfl⟩ := List.mem_map.mp h
  exact addR_sup (g.one.plans a ha) (g.two.plans b hb)
theorem ix_g {n : Nat} {p : Lots} (g : GLots n p) : (0 : Int) ≤ 0 ∧ (0 : Int) < (p.1.items.length : Int) := len0 g.one.ne
section
variable {P : Program} {w : World} {K : PySem.W.Frag} {mg : Str → Option Value} {base : Heap}
theorem scsums : FnScope ["lot", "other", "own", "far", "one", "two", "a", "b"] ["lot", "other"] (defScope (top 45)) := ⟨rfl, rfl, rfl, by decide +kernel, rfl, by decide +kernel, by decide +kernel⟩
theorem c_sums (B : Bn mg) (D : DefIn K mg "sums" (top 45)) (c_set_of : C8.Cal P w K mg base 1 "set_of" (SpG K R_set_of) []) (c_sure_lots : C8.Cal P w K mg base 8 "sure_lots" (SpG K R_sure_lots) []) : C8.Cal P w K mg base 9 "sums" (SpG K R_sums) [] := by
  refine cal_pure (R := R_sums) D scsums (fun _ _ _ _ _ _ us hl => match us, hl with | [_, _], _ => rfl) (by
    rintro ds r ⟨_, _, rfl, _⟩; rfl) fun f cdv A outer s H E hr => ⟨_, (pss_cons (ps_asg (C8.pe_c c_sure_lots hr (by decide) (by rfl) (pa_cons (pv 0) (pa_cons (pv 1) pa_nil))) (pg_tup (n := 2) rfl (pgs_cons (pg_name (i := 2) scsums.nd rfl (by first | exact Or.inl rfl | exact Or.inr rfl)) (pgs_cons (pg_name (i := 3) scsums.nd rfl (by first | exact Or.inl rfl | exact Or.inr rfl)) pgs_nil)) : PG _ _ (gTup K 2 _)))
    (pss_one (ps_ret (C8.pe_c c_set_of hr (by decide) (by rfl) (pa_cons (pe_lc2 rfl scsums.nd (pi_seqX (pv 2) : PI _ _ _ (iSeqX K _)) (blkOk_by (own := [("one", 4), ("two", 5)]) (by kernel_rfl)) (vs1 := [5]) (by decide) (fun _ _ _ _ _ => (pg_name (i := 4) scsums.nd rfl (by first | exact Or.inl rfl | exact Or.inr rfl))) (fun _ _ _ _ _ => pts_nil) (fun _ _ _ _ _ => (pi_seqX (pv 3) : PI _ _ _ (iSeqX K _))) (fun _ _ _ _ _ => (pg_name (i := 5) scsums.nd rfl (by first | exact Or.inl rfl | exact Or.inr rfl))) (fun _ _ _ _ _ => pts_nil) (fun _ _ _ _ _ => (pe_callTy (cr_tupleX : CallR _ _ (rTupleX K)) (by rfl) B.tuple PyProof.Rows.boot_tuple (pa_cons (pe_lc rfl scsums.nd (pi_zipX (by rfl) B.zip (pa_cons (pv 4) (pa_cons (pv 5) pa_nil)) : PI _ _ _ (iZipX K _)) (blkOk_by (own := [("a", 6), ("b", 7)]) (by kernel_rfl)) (fun _ _ _ _ _ => (pg_tup (n := 2) rfl (pgs_cons (pg_name (i := 6) scsums.nd rfl (by first | exact Or.inl rfl | exact Or.inr rfl)) (pgs_cons (pg_name (i := 7) scsums.nd rfl (by first | exact Or.inl rfl | exact Or.inr rfl)) pgs_nil)) : PG _ _ (gTup K 2 _))) (fun _ _ _ _ _ => pts_nil) (fun _ _ _ _ _ => (pe_op op_add (pv 6) (pv 7)))) pa_nil)))) pa_nil))))), ?_⟩
  rintro F vs ds r ⟨d, e, rfl, p, n, hh, hl, rfl⟩ hv
  obtain ⟨v_lot, v_other, rfl, r_lot, r_other⟩ := dq2 hv
  refine (er_asg (ev_call (ea_consD (evd_var (i := 0) rfl r_lot) (ea_consD (evd_var (i := 1) rfl r_other) ea_nil)) (R_sure_lots_mk (p := p) (n := n) hh)) fun F1 v1 s1 r1 => lcb_two r1 fun u1 w1 ru1 rw1 => (er_retE (ev_call (ea_cons (ev_lc2 (ei_tup (ev_var (i := 2) rfl ru1)) ?_ (fun F2 v2 x2 s2 hx2 r2 => lcb_name ⟨rfl, (ei_tup (ev_var (i := 3) rfl (rw1.mono s2))), fun F3 v3 x3 s3 hx3 r3 => lcb_name ⟨rfl, (ev_tupL (ev_lc1 (ei_zip2 (ez_tup (ev_var (i := 4) rfl (r2.mono s3))) (ez_tup (ev_var (i := 5) rfl r3)) ?_) (fun F4 v4 x4 s4 hx4 r4 => lcb_two r4 fun u2 w2 ru2 rw2 => ⟨rfl, (ev_i0 (ev_var (i := 6) rfl ru2) (ev_var (i := 7) rfl rw2))⟩)))⟩⟩)) ea_nil) (r1_mk ?_)) ?_))
  -- length of both clauses: [tuple([a + b for a, b in zip(one, two)]) for one in own for two in far]
  -- zip lengths: zip(one, two)
  -- pre of set_of([tuple([a + b for a, b in zip(one, two)]) for one in own for two in far])
  -- return set_of([tuple([a + b for a, b in zip(one, two)]) for one in own for two in far])
  · rw [prod_len]
    unfold sizeLine
    omega
  · rw [hh.lots.one.len hx2, hh.lots.two.len hx3]
    exact Nat.le_refl _
  · show SetOk (sumsL p)
    refine ⟨by show (List.flatMap _ _).length < 64; rw [prod_len]; exact hl, n, 3, hh.lots.n1.1, fun x hx => ⟨(sums_sup hh.lots x hx).len, fun y hy => ?_⟩⟩
    have := (sums_sup hh.lots x hx).bits y hy
    omega
  · rfl

theorem scdeals : FnScope ["lot", "other", "supply", "own"] ["lot", "other", "supply"] (defScope (top 46)) := ⟨rfl, rfl, rfl, by decide +kernel, rfl, by decide +kernel, by decide +kernel⟩
theorem c_deals (B : Bn mg) (D : DefIn K mg "deals" (top 46)) (c_deals_of : C8.Cal P w K mg base 1 "deals_of" (SpG K R_deals_of) []) (c_sure_lots : C8.Cal P w K mg base 8 "sure_lots" (SpG K R_sure_lots) []) (c_sure_supply : C8.Cal P w K mg base 7 "sure_supply" (SpG K R_sure_supply) []) : C8.Cal P w K mg base 9 "deals" (SpG K R_deals) [] := by
  refine cal_pure (R := R_deals) D scdeals (fun _ _ _ _ _ _ us hl => match us, hl with | [_, _, _], _ => rfl) (by
    rintro ds r ⟨_, _, _, rfl, _⟩; rfl) fun f cdv A outer s H E hr => ⟨_, (pss_cons (ps_set (i := 3) scdeals.nd rfl (by first | exact Or.inl rfl | exact Or.inr rfl) (C8.pe_c c_sure_lots hr (by decide) (by rfl) (pa_cons (pv 0) (pa_cons (pv 1) pa_nil))))
    (pss_one (ps_ret (pe_callTy (cr_tupleX : CallR _ _ (rTupleX K)) (by rfl) B.tuple PyProof.Rows.boot_tuple (pa_cons (C8.pe_c c_deals_of hr (by decide) (by rfl) (pa_cons (pv 3) (pa_cons (C8.pe_c c_sure_supply hr (by decide) (by rfl) (pa_cons (pv 2) (pa_cons (pe_callB (cr_lenX : CallR _ _ (rLenX K)) (by rfl) B.len PySem.boot_len (pa_cons (pe_ix (ix_seq : IxR _ (rIx K)) (pe_ix (ix_seq : IxR _ (rIx K)) (pv 3) pe_int (fun _ _ => rfl)) pe_int (fun _ _ => rfl)) pa_nil)) pa_nil))) pa_nil))) pa_nil))))), ?_⟩
  rintro F vs ds r ⟨d, e, f, rfl, p, sv, n, hh, hf, rfl⟩ hv
  obtain ⟨v_lot, v_other, v_supply, rfl, r_lot, r_other, r_supply⟩ := dq3 hv
  refine (er_set (ev_call (ea_consD (evd_var (i := 0) rfl r_lot) (ea_consD (evd_var (i := 1) rfl r_other) ea_nil)) (R_sure_lots_mk (p := p) (n := n) hh)) fun F1 v1 s1 r1 => (er_retE (ev_tupL (ev_call (ea_cons (ev_var (i := 3) rfl r1) (ea_cons (ev_call (ea_consD (evd_var (i := 2) rfl (dp_mono s1 _ _ r_supply)) (ea_cons (ev_lenT (ev_nthT (ev_fst (ev_var (i := 3) rfl r1)) ev_int ?_)) ea_nil)) (R_sure_supply_mk (s := sv) (m := n) ?_ hf.1 hf.2.1 hf.2.2)) ea_nil)) (r2_mk ?_))) ?_))
  -- index: own[0][0]
  -- pre of sure_supply(supply, len(own[0][0]))
  -- pre of deals_of(own, sure_supply(supply, len(own[0][0])))
  -- return tuple(deals_of(own, sure_supply(supply, len(own[0][0]))))
  · exact ix_g hh.lots
  · rw [hh.lots.f00]
  · exact ⟨n, hh.lots, hf.2.2⟩
  · rfl

theorem scdeal_paper : FnScope ["lot", "other", "supply", "own", "told"] ["lot", "other", "supply"] (defScope (top 47)) := ⟨rfl, rfl, rfl, by decide +kernel, rfl, by decide +kernel, by decide +kernel⟩
theorem c_deal_paper (B : Bn mg) (D : DefIn K mg "deal_paper" (top 47)) (c_deal_by : C8.Cal P w K mg base 5 "deal_by" (SpG K R_deal_by) []) (c_sure_dealt : C8.Cal P w K mg base 1 "sure_dealt" (SpG K R_sure_dealt) []) (c_sure_lots : C8.Cal P w K mg base 8 "sure_lots" (SpG K R_sure_lots) []) (c_sure_supply : C8.Cal P w K mg base 7 "sure_supply" (SpG K R_sure_supply) []) : C8.Cal P w K mg base 9 "deal_paper" (SpG K R_deal_paper) [] := by
  refine cal_pure (R := R_deal_paper) D scdeal_paper (fun _ _ _ _ _ _ us hl => match us, hl with | [_, _, _], _ => rfl) (by
    rintro ds r ⟨_, _, _, rfl, _⟩; rfl) fun f cdv A outer s H E hr => ⟨_, (pss_cons (ps_set (i := 3) scdeal_paper.nd rfl (by first | exact Or.inl rfl | exact Or.inr rfl) (C8.pe_c c_sure_lots hr (by decide) (by rfl) (pa_cons (pv 0) (pa_cons (pv 1) pa_nil))))
    (pss_cons (ps_set (i := 4) scdeal_paper.nd rfl (by first | exact Or.inl rfl | exact Or.inr rfl) (C8.pe_c c_sure_supply hr (by decide) (by rfl) (pa_cons (pv 2) (pa_cons (pe_callB (cr_lenX : CallR _ _ (rLenX K)) (by rfl) B.len PySem.boot_len (pa_cons (pe_ix (ix_seq : IxR _ (rIx K)) (pe_ix (ix_seq : IxR _ (rIx K)) (pv 3) pe_int (fun _ _ => rfl)) pe_int (fun _ _ => rfl)) pa_nil)) pa_nil))))
    (pss_one (ps_ret (C8.pe_c c_deal_by hr (by decide) (by rfl) (pa_cons (C8.pe_c c_sure_dealt hr (by decide) (by rfl) (pa_cons (pv 3) pa_nil)) (pa_cons (pv 4) pa_nil))))))), ?_⟩
  rintro F vs ds r ⟨d, e, f, rfl, p, sv, n, hh, hw, hf, rfl⟩ hv
  obtain ⟨v_lot, v_other, v_supply, rfl, r_lot, r_other, r_supply⟩ := dq3 hv
  refine (er_set (ev_call (ea_consD (evd_var (i := 0) rfl r_lot) (ea_consD (evd_var (i := 1) rfl r_other) ea_nil)) (R_sure_lots_mk (p := p) (n := n) hh)) fun F1 v1 s1 r1 => (er_set (ev_call (ea_consD (evd_var (i := 2) rfl (dp_mono s1 _ _ r_supply)) (ea_cons (ev_lenT (ev_nthT (ev_fst (ev_var (i := 3) rfl r1)) ev_int ?_)) ea_nil)) (R_sure_supply_mk (s := sv) (m := n) ?_ hf.1 hf.2.1 hf.2.2)) fun F2 v2 s2 r2 => (er_retD (evd_call (ea_cons (ev_call (ea_cons (ev_var (i := 3) rfl (r1.mono s2)) ea_nil) (r1_mk ?_)) (ea_cons (ev_var (i := 4) rfl r2) ea_nil)) ⟨p, sv, n, rfl, hh.lots, hw, hf.2.2, rfl⟩) ?_)))
  -- index: own[0][0]
  -- pre of sure_supply(supply, len(own[0][0]))
  -- pre of sure_dealt(own)
  -- return deal_by(sure_dealt(own), told)
  · exact ix_g hh.lots
  · rw [hh.lots.f00]
  · exact ⟨n, hh.lots, hw⟩
  · rfl

theorem scbarred_supply : FnScope ["lot", "other", "own", "supply"] ["lot", "other"] (defScope (top 48)) := ⟨rfl, rfl, rfl, by decide +kernel, rfl, by decide +kernel, by decide +kernel⟩
theorem c_barred_supply (B : Bn mg) (D : DefIn K mg "barred_supply" (top 48)) (c_deals_of : C8.Cal P w K mg base 1 "deals_of" (SpG K R_deals_of) []) (c_supplies_by : C8.Cal P w K mg base 5 "supplies_by" (SpG K R_supplies_by) []) (c_sure_dealt : C8.Cal P w K mg base 1 "sure_dealt" (SpG K R_sure_dealt) []) (c_sure_lots : C8.Cal P w K mg base 8 "sure_lots" (SpG K R_sure_lots) []) : C8.Cal P w K mg base 9 "barred_supply" (SpG K R_barred_supply) [] := by
  refine cal_pure (R := R_barred_supply) D scbarred_supply (fun _ _ _ _ _ _ us hl => match us, hl with | [_, _], _ => rfl) (by
    rintro ds r ⟨_, _, rfl, _⟩; rfl) fun f cdv A outer s H E hr => ⟨_, (pss_cons (ps_set (i := 2) scbarred_supply.nd rfl (by first | exact Or.inl rfl | exact Or.inr rfl) (C8.pe_c c_sure_dealt hr (by decide) (by rfl) (pa_cons (C8.pe_c c_sure_lots hr (by decide) (by rfl) (pa_cons (pv 0) (pa_cons (pv 1) pa_nil))) pa_nil)))
    (pss_cons (ps_for PassesOwn.never rfl (pi_seqX (C8.pe_c c_supplies_by hr (by decide) (by rfl) (pa_cons (pv 2) pa_nil)) : PI _ _ _ (iSeqX K _)) (pg_name (i := 3) scbarred_supply.nd rfl (by first | exact Or.inl rfl | exact Or.inr rfl)) (pss_one (ps_if (pt_cmpR (op_eqX hr.units : OpR _ _ (rEqX K)) (C8.pe_c c_deals_of hr (by decide) (by rfl) (pa_cons (pv 2) (pa_cons (pv 3) pa_nil))) (pe_lst pa_nil) (nomark _)) (pss_one (ps_ret (pv 3))) pss_nil)))
    (pss_one (ps_ret pe_non)))), ?_⟩
  rintro F vs ds r ⟨d, e, rfl, p, n, hh, hw, rfl⟩ hv
  obtain ⟨v_lot, v_other, rfl, r_lot, r_other⟩ := dq2 hv
  refine er_set (x := p) (ev_call (ea_cons (ev_call (ea_consD (evd_var (i := 0) rfl r_lot) (ea_consD (evd_var (i := 1) rfl r_other) ea_nil)) (R_sure_lots_mk (p := p) (n := n) hh)) ea_nil) (r1_mk ⟨n, hh.lots, hw⟩)) fun F1 v1 s1 r1 => ?_
  refine er_forR (xs := supsV p n) (ei_list (ev_call (ea_cons (ev_var (i := 2) rfl r1) ea_nil) (R_supplies_by_mk hh.lots hw))) (fun i F' σ' => ∃ o, σ' = [some v_lot, some v_other, some v1, o] ∧ ∀ s ∈ (supsV p n).take i, dealsV p s ≠ []) (fun i F1 F2 σ' s h => h) ⟨none, rfl, fun s hs => nomatch hs⟩ (fun i F2 v x σ' s2 hx r hp => ?_) (fun F2 σ' s2 hp => ?_)
  · obtain ⟨o, rfl, hl⟩ := hp
    have hm : x ∈ supsV p n := List.mem_of_getElem? hx
    have gs : GSup n x := everyS_iff.mp (List.mem_filter.mp hm).1
    refine ⟨_, eg_name, ?_⟩
    by_cases h : dealsV p x = []
    · refine .inr (er_ifE (b := true) (EvT.cast (et_test (ev_eq (ev_call (y := dealsV p x) (ea_cons (ev_var (i := 2) rfl (r1.mono s2)) (ea_cons (ev_var (i := 3) rfl r) ea_nil)) (r2_mk ⟨n, hh.lots, gs⟩)) (ev_dL es_nil))) (decide_eq_true h)) (fun _ => er_retE (ev_var (i := 3) rfl r) ?_) (fun h => by cases h))
      have hfind : barV p n = some x := by
        unfold barV
        have hi := (List.getElem?_eq_some_iff.mp hx).1
        have e := List.getElem?_eq_some_iff.mp hx
        rw [List.find?_eq_some_iff_append]
        refine ⟨decide_eq_true h, (supsV p n).take i, (supsV p n).drop (i + 1), ?_, fun a ha => ?_⟩
        · rw [← e.2, ← List.drop_eq_getElem_cons hi, List.take_append_drop]
        · have := hl a ha
          simpa using this
      rw [hfind]
      rfl
    · refine .inl (en_if (b := false) (EvT.cast (et_test (ev_eq (ev_call (y := dealsV p x) (ea_cons (ev_var (i := 2) rfl (r1.mono s2)) (ea_cons (ev_var (i := 3) rfl r) ea_nil)) (r2_mk ⟨n, hh.lots, gs⟩)) (ev_dL es_nil))) (decide_eq_false h)) (fun h => by cases h) (fun _ => en_next fun F3 s3 => ⟨_, rfl, fun s hs => ?_⟩))
      rw [List.take_add_one, hx] at hs
      rcases List.mem_append.mp hs with hs | hs
      · exact hl s hs
      · have e : s = x := by simpa using hs
        rw [e]
        exact h
  · obtain ⟨o, rfl, hl⟩ := hp
    rw [List.take_length] at hl
    refine er_ret (EvD.cast (Ev.d ev_none) ?_)
    have hnone : barV p n = none := by
      unfold barV
      rw [List.find?_eq_none]
      intro a ha h
      exact hl a ha (of_decide_eq_true h)
    rw [hnone]
    rfl

theorem scall_dealt : FnScope ["lot", "other"] ["lot", "other"] (defScope (top 49)) := ⟨rfl, rfl, rfl, by decide +kernel, rfl, by decide +kernel, by decide +kernel⟩
theorem c_all_dealt (B : Bn mg) (D : DefIn K mg "all_dealt" (top 49)) (c_barred_supply : C8.Cal P w K mg base 9 "barred_supply" (SpG K R_barred_supply) []) : C8.Cal P w K mg base 10 "all_dealt" (SpG K R_all_dealt) [] := by
  refine cal_pure (R := R_all_dealt) D scall_dealt (fun _ _ _ _ _ _ us hl => match us, hl with | [_, _], _ => rfl) (by
    rintro ds r ⟨_, _, rfl, _⟩; rfl) fun f cdv A outer s H E hr => ⟨_, (pss_one (ps_ret (pe_cmp (pc_isN (C8.pe_c c_barred_supply hr (by decide) (by rfl) (pa_cons (pv 0) (pa_cons (pv 1) pa_nil))))))), ?_⟩
  rintro F vs ds r ⟨d, e, rfl, p, n, hh, hw, rfl⟩ hv
  obtain ⟨v_lot, v_other, rfl, r_lot, r_other⟩ := dq2 hv
  refine er_retE (ev_isN (d := optR (barV p n)) (evd_call (ea_consD (evd_var (i := 0) rfl r_lot) (ea_consD (evd_var (i := 1) rfl r_other) ea_nil)) ⟨d, e, rfl, p, n, hh, hw, rfl⟩)) ?_
  cases barV p n <;> rfl

end
end Sp

set_option linter.all false
set_option maxHeartbeats 1000000
/-! a best one is there just if there is a way at all -/
namespace Lp
/-- numbers from 0 on that come to the totals, w times -/
def Feas (rows : List (List Int)) (totals : List Int) (many m : Nat) : Prop := ∃ (w : Int) (f : Nat → Int), 0 < w ∧ (∀ j, j < many → 0 ≤ f j) ∧ ∀ r, r < m → sm many (fun j => entL rows r j * f j) = w * totals.getD r 0
theorem not_feas {rows : List (List Int)} {totals gains : List Int} {many m : Nat} {w : Int} {z : List Int} (h : Says rows totals gains many m (.none w z)) : ¬ Feas rows totals many m := by
  rintro ⟨v, f, hv, hf, he⟩
  obtain ⟨_, _, h1, h2⟩ := h
  have a : sm m (fun r => z.getD r 0 * (v * totals.getD r 0)) = sm many fun j => f j * sm m fun r => entL rows r j * z.getD r 0 := by
    rw [sm_congr (g := fun r => sm many fun j => f j * (entL rows r j * z.getD r 0)) fun r hr => by
      rw [← he r hr, ← sm_mul]
      exact sm_congr fun j _ => by grind, sm_comm]
    exact sm_congr fun j _ => by rw [sm_mul]
  have b : 0 ≤ sm many fun j => f j * sm m fun r => entL rows r j * z.getD r 0 := sm_nonneg fun j hj => Int.mul_nonneg (hf j hj) (h1 j hj)
  rw [← a, sm_congr (g := fun r => v * (totals.getD r 0 * z.getD r 0)) fun r _ => by grind, sm_mul] at b
  have := Int.mul_neg_of_pos_of_neg hv h2
  omega
theorem feas_of {rows : List (List Int)} {totals gains : List Int} {many m : Nat} {w : Int} {ws ds : List Int} (h : Says rows totals gains many m (.best w ws ds)) : Feas rows totals many m := by
  obtain ⟨h0, _, _, h1, h2, _⟩ := h
  exact ⟨w, fun j => ws.getD j 0, h0, h1, h2⟩
theorem best_iff {rows : List (List Int)} {totals gains : List Int} {many m : Nat} (h : Fit rows totals gains many m) : (∃ w ws ds, solvedL rows totals gains many m = .best w ws ds) ↔ Feas rows totals many m := by
  have s := solvedL_says h
  constructor
  · rintro ⟨w, ws, ds, e⟩
    rw [e] at s
    exact feas_of s
  · intro f
    cases e : solvedL rows totals gains many m with
    | none w z =>
      rw [e] at s
      exact absurd f (not_feas s)
    | best w ws ds => exact ⟨w, ws, ds, rfl⟩
theorem sm_split {a b : Nat} {f : Nat → Int} : sm (a + b) f = sm a f + sm b fun j => f (a + j) := by
  induction b with
  | zero => simp [sm]
  | succ b ih => rw [← Nat.add_assoc, sm, ih, sm]; omega
/-! ### sums over lists -/
def ls {α : Type} (f : α → Int) (xs : List α) : Int := (xs.map f).sum
theorem ls_sm {α : Type} {f : α → Int} {xs : List α} {d : α} : ls f xs = sm xs.length fun i => f (xs.getD i d) := sum_map_sm
theorem ls_congr {α : Type} {f g : α → Int} {xs : List α} (h : ∀ x ∈ xs, f x = g x) : ls f xs = ls g xs := by
  unfold ls
  rw [List.map_congr_left h]
theorem ls_cons {α : Type} {f : α → Int} {x : α} {xs : List α} : ls f (x :: xs) = f x + ls f xs := by simp [ls]
theorem ls_add {α : Type} {f g : α → Int} {xs : List α} : ls (fun x => f x + g x) xs = ls f xs + ls g xs := by
  induction xs with
  | nil => rfl
  | cons x xs ih => rw [ls_cons, ls_cons, ls_cons, ih]; omega
theorem ls_sub {α : Type} {f g : α → Int} {xs : List α} : ls (fun x => f x - g x) xs = ls f xs - ls g xs := by
  induction xs with
  | nil => rfl
  | cons x xs ih => rw [ls_cons, ls_cons, ls_cons, ih]; omega
theorem ls_mul {α : Type} {f : α → Int} {xs : List α} {a : Int} : ls (fun x => a * f x) xs = a * ls f xs := by
  induction xs with
  | nil => simp [ls]
  | cons x xs ih => rw [ls_cons, ls_cons, ih, Int.mul_add]
theorem ls_nonneg {α : Type} {f : α → Int} {xs : List α} (h : ∀ x ∈ xs, 0 ≤ f x) : 0 ≤ ls f xs := by
  induction xs with
  | nil => exact Int.le_refl _
  | cons x xs ih =>
    have a := h x (by simp)
    have b := ih fun y hy => h y (by simp [hy])
    rw [ls_cons]; omega
theorem ls_eq0 {α : Type} {f : α → Int} {xs : List α} (h : ∀ x ∈ xs, 0 ≤ f x) (e : ls f xs = 0) : ∀ x ∈ xs, f x = 0 := by
  induction xs with
  | nil => intro x hx; cases hx
  | cons x xs ih =>
    have a := h x (by simp)
    have b := ls_nonneg (xs := xs) fun y hy => h y (by simp [hy])
    rw [ls_cons] at e
    intro y hy
    rcases List.mem_cons.mp hy with rfl | hy
    · omega
    · exact ih (fun y hy => h y (by simp [hy])) (by omega) y hy
theorem ls_pos {α : Type} {f : α → Int} {xs : List α} (h : 0 < ls f xs) : ∃ x ∈ xs, 0 < f x := by
  induction xs with
  | nil => exact absurd h (Int.lt_irrefl _)
  | cons x xs ih =>
    rw [ls_cons] at h
    by_cases q : 0 < f x
    · exact ⟨x, by simp, q⟩
    · obtain ⟨y, hy, hf⟩ := ih (by omega)
      exact ⟨y, by simp [hy], hf⟩
theorem ls_perm {α : Type} {f : α → Int} {xs ys : List α} (h : xs.Perm ys) : ls f xs = ls f ys := by
  induction h with
  | nil => rfl
  | cons x _ ih => rw [ls_cons, ls_cons, ih]
  | swap x y l => rw [ls_cons, ls_cons, ls_cons, ls_cons]; omega
  | trans _ _ h1 h2 => rw [h1, h2]
theorem ls_map {α β : Type} {f : β → Int} {g : α → β} {xs : List α} : ls f (xs.map g) = ls (fun x => f (g x)) xs := by
  unfold ls
  rw [List.map_map]
  rfl
theorem ls_zero {α : Type} {f : α → Int} {xs : List α} (h : ∀ x ∈ xs, f x = 0) : ls f xs = 0 := by
  induction xs with
  | nil => rfl
  | cons x xs ih => rw [ls_cons, h x (by simp), ih fun y hy => h y (by simp [hy])]; rfl
theorem ls_one {α : Type} [DecidableEq α] {f : α → Int} {xs : List α} {p : α} (hn : xs.Nodup) (hp : p ∈ xs) (h : ∀ x ∈ xs, x ≠ p → f x = 0) : ls f xs = f p := by
  induction xs with
  | nil => cases hp
  | cons x xs ih =>
    rw [ls_cons]
    obtain ⟨h1, h2⟩ := List.nodup_cons.mp hn
    rcases List.mem_cons.mp hp with rfl | hp
    · rw [ls_zero fun y hy => h y (by simp [hy]) fun e => h1 (e ▸ hy)]; omega
    · rw [h x (by simp) fun e => h1 (e ▸ hp), ih h2 hp fun y hy => h y (by simp [hy])]; omega
/-- over a part, as over the whole -/
theorem ls_part {α : Type} [DecidableEq α] {f : α → Int} : ∀ {xs ys : List α}, xs.Nodup → ys.Nodup → (∀ x ∈ xs, x ∈ ys) → ls f xs = ls (fun y => if y ∈ xs then f y else 0) ys
  | [], ys, _, _, _ => by rw [ls_zero (xs := ys) fun y _ => if_neg List.not_mem_nil]; rfl
  | x :: xs, ys, hx, hy, h => by
    obtain ⟨h1, h2⟩ := List.nodup_cons.mp hx
    have ih := ls_part (f := f) h2 hy fun z hz => h z (by simp [hz])
    have e : ls (fun y => if y ∈ x :: xs then f y else 0) ys = ls (fun y => if y = x then f x else 0) ys + ls (fun y => if y ∈ xs then f y else 0) ys := by
      rw [← ls_add]
      refine ls_congr fun y _ => ?_
      by_cases e : y = x
      · subst e
        rw [if_pos (by simp), if_pos rfl, if_neg h1]; omega
      · rw [if_neg e]
        by_cases m : y ∈ xs
        · rw [if_pos (by simp [m]), if_pos m]; omega
        · rw [if_neg (by simp [e, m]), if_neg m]; rfl
    rw [e, ls_cons, ih, ls_one (p := x) hy (h x (by simp)) fun y _ hne => if_neg hne, if_pos rfl]
end Lp

set_option Elab.async false
set_option linter.all false
set_option maxRecDepth 100000
set_option maxHeartbeats 4000000
namespace Sp
open PySem PySem.Spec PyProof.Rows L2
open PySem.W (Datum DatumOrd Tup)
open Lp (entL ls sm)
/-! the plain law -/
def bit (p : Row) (k : Nat) : Int := p.items.getD k 0
/-- the supply is a mix of both -/
def Mix (n : Nat) (p : Lots) (s : Row) : Prop := ∃ (w : Int) (a b : Row → Int), 0 < w ∧ (∀ x ∈ p.1.items, 0 ≤ a x) ∧ (∀ x ∈ p.2.items, 0 ≤ b x) ∧ ls a p.1.items = w ∧ ls b p.2.items = w ∧
  ∀ k, k < n → ls (fun x => a x * bit x k) p.1.items + ls (fun x => b x * bit x k) p.2.items = w * bit s k
theorem lot_nodup {l : List Row} (h : l.Pairwise tlt) : l.Nodup := h.imp fun {a b} h e => by
  subst e
  unfold tlt at h
  rw [ll_irr] at h
  cases h
theorem getD_inj {l : List Row} (h : l.Nodup) {i j : Nat} {d : Row} (hi : i < l.length) (hj : j < l.length) (e : l.getD i d = l.getD j d) : i = j := by
  rw [List.getD_eq_getElem?_getD, List.getD_eq_getElem?_getD, List.getElem?_eq_getElem hi, List.getElem?_eq_getElem hj] at e
  refine Classical.byContradiction fun hne => ?_
  have hp := List.pairwise_iff_getElem.mp h
  have e : l[i] = l[j] := e
  by_cases q : i < j
  · exact hp i j hi hj q e
  · exact hp j i hj hi (by omega) e.symm
theorem feas_mix {n : Nat} {p : Lots} {s : Row} (g : GLots n p) (gs : GSup n s) : Lp.Feas (wRows p n) (s.items ++ [1, 1]) (p.1.items.length + p.2.items.length) (n + 2) ↔ Mix n p s := by
  have d : Row := Tup.mk []
  have n1 := lot_nodup g.one.asc
  have n2 := lot_nodup g.two.asc
  have hr : ∀ r j, r < n → j < p.1.items.length + p.2.items.length → entL (wRows p n) r j = bit ((p.1.items ++ p.2.items).getD j d) r := fun r j hr hj => by
    unfold entL
    rw [wRows_row hr, List.getD_eq_getElem?_getD, List.getElem?_map, List.getElem?_eq_getElem (by rw [List.length_append]; exact hj)]
    show ((p.1.items ++ p.2.items)[j]'(by rw [List.length_append]; exact hj)).items.getD r 0 = bit _ r
    rw [List.getD_eq_getElem?_getD (l := p.1.items ++ p.2.items), List.getElem?_eq_getElem (by rw [List.length_append]; exact hj)]
    rfl
  have l1 : ∀ j, j < p.1.items.length → (p.1.items ++ p.2.items).getD j d = p.1.items.getD j d := fun j hj => by rw [Lp.getD_app, if_pos hj]
  have l2 : ∀ j, (p.1.items ++ p.2.items).getD (p.1.items.length + j) d = p.2.items.getD j d := fun j => by rw [Lp.getD_app, if_neg (by omega), Nat.add_sub_cancel_left]
  have ra : ∀ j, j < p.1.items.length + p.2.items.length → entL (wRows p n) n j = if j < p.1.items.length then 1 else 0 := fun j hj => by
    unfold entL
    rw [wRows_a, Lp.getD_app, List.length_replicate]
    split
    · rw [List.getD_eq_getElem?_getD, List.getElem?_replicate, if_pos (by assumption)]; rfl
    · exact getD_rep0
  have rb : ∀ j, j < p.1.items.length + p.2.items.length → entL (wRows p n) (n + 1) j = if j < p.1.items.length then 0 else 1 := fun j hj => by
    unfold entL
    rw [wRows_b, Lp.getD_app, List.length_replicate]
    split
    · exact getD_rep0
    · rw [List.getD_eq_getElem?_getD, List.getElem?_replicate, if_pos (by omega)]; rfl
  have t1 : ∀ r, r < n → (s.items ++ [1, 1]).getD r 0 = bit s r := fun r hr => by rw [Lp.getD_app, if_pos (by rw [gs.len]; exact hr)]; rfl
  have t2 : (s.items ++ [1, 1]).getD n 0 = 1 := by rw [Lp.getD_app, if_neg (by rw [gs.len]; omega), gs.len, Nat.sub_self]; rfl
  have t3 : (s.items ++ [1, 1]).getD (n + 1) 0 = 1 := by rw [Lp.getD_app, if_neg (by rw [gs.len]; omega), gs.len, show n + 1 - n = 1 by omega]; rfl
  constructor
  · rintro ⟨w, f, hw, hf, he⟩
    let A : List Row → (Nat → Int) → Row → Int := fun l f x => sm l.length fun j => if l.getD j d = x then f j else 0
    have key : ∀ (l : List Row) (f : Nat → Int) (c : Row → Int), l.Nodup → ls (fun x => A l f x * c x) l = sm l.length fun j => f j * c (l.getD j d) := by
      intro l f c hn
      rw [Lp.ls_sm (d := d)]
      refine Lp.sm_congr fun i hi => ?_
      show (sm l.length fun j => if l.getD j d = l.getD i d then f j else 0) * _ = _
      rw [Lp.sm_one (k := i) hi fun j hj hne => if_neg fun e => hne (getD_inj hn hj hi e), if_pos rfl]
    have key1 : ∀ (l : List Row) (f : Nat → Int), l.Nodup → ls (A l f) l = sm l.length f := by
      intro l f hn
      have := key l f (fun _ => 1) hn
      rw [Lp.ls_congr (g := A l f) fun x _ => Int.mul_one _] at this
      rw [this]
      exact Lp.sm_congr fun j _ => Int.mul_one _
    have apos : ∀ (l : List Row) (f : Nat → Int), (∀ j, j < l.length → 0 ≤ f j) → ∀ x, 0 ≤ A l f x := fun l f h x => Lp.sm_nonneg fun j hj => by
      split
      · exact h j hj
      · exact Int.le_refl _
    have ea := he n (by omega)
    rw [t2, Int.mul_one, Lp.sm_split, Lp.sm_congr (g := f) fun j hj => by rw [ra j (by omega), if_pos hj, Int.one_mul], Lp.sm_zero (n := p.2.items.length) fun j hj => by rw [ra _ (by omega), if_neg (by omega), Int.zero_mul], Int.add_zero] at ea
    have eb := he (n + 1) (by omega)
    rw [t3, Int.mul_one, Lp.sm_split, Lp.sm_zero (n := p.1.items.length) fun j hj => by rw [rb _ (by omega), if_pos hj, Int.zero_mul], Lp.sm_congr (g := fun j => f (p.1.items.length + j)) fun j hj => by rw [rb _ (by omega), if_neg (by omega), Int.one_mul], Int.zero_add] at eb
    refine ⟨w, A p.1.items f, A p.2.items (fun j => f (p.1.items.length + j)), hw, fun x _ => apos _ _ (fun j hj => hf j (by omega)) x, fun x _ => apos _ _ (fun j hj => hf _ (by omega)) x, by rw [key1 _ _ n1, ea], by rw [key1 _ _ n2, eb], fun k hk => ?_⟩
    have e := he k (by omega)
    rw [t1 k hk, Lp.sm_split] at e
    rw [key _ _ _ n1, key _ _ _ n2, ← e]
    congr 1
    · exact Lp.sm_congr fun j hj => by rw [hr k j hk (by omega), l1 j hj, Int.mul_comm]
    · exact Lp.sm_congr fun j hj => by rw [hr k _ hk (by omega), l2 j, Int.mul_comm]
  · rintro ⟨w, a, b, hw, ha, hb, ea, eb, e⟩
    refine ⟨w, fun j => if j < p.1.items.length then a (p.1.items.getD j d) else b (p.2.items.getD (j - p.1.items.length) d), hw, fun j hj => ?_, fun r hr' => ?_⟩
    · show 0 ≤ if j < p.1.items.length then a (p.1.items.getD j d) else b (p.2.items.getD (j - p.1.items.length) d)
      split
      · exact ha _ (Lp.getD_mem (by assumption))
      · exact hb _ (Lp.getD_mem (by omega))
    · have split1 : ∀ c : Nat → Int, sm (p.1.items.length + p.2.items.length) (fun j => c j * if j < p.1.items.length then a (p.1.items.getD j d) else b (p.2.items.getD (j - p.1.items.length) d)) = sm p.1.items.length (fun j => c j * a (p.1.items.getD j d)) + sm p.2.items.length fun j => c (p.1.items.length + j) * b (p.2.items.getD j d) := fun c => by
        rw [Lp.sm_split]
        congr 1
        · exact Lp.sm_congr fun j hj => by rw [if_pos hj]
        · exact Lp.sm_congr fun j hj => by rw [if_neg (by omega), Nat.add_sub_cancel_left]
      show sm _ (fun j => entL (wRows p n) r j * if j < p.1.items.length then a (p.1.items.getD j d) else b (p.2.items.getD (j - p.1.items.length) d)) = _
      rw [split1]
      by_cases h1 : r < n
      · rw [t1 r h1, ← e r h1, Lp.ls_sm (d := d), Lp.ls_sm (d := d)]
        congr 1
        · exact Lp.sm_congr fun j hj => by rw [hr r j h1 (by omega), l1 j hj, Int.mul_comm]
        · exact Lp.sm_congr fun j hj => by rw [hr r _ h1 (by omega), l2 j, Int.mul_comm]
      · by_cases h2 : r = n
        · subst h2
          rw [t2, Int.mul_one, Lp.sm_congr (n := p.1.items.length) (g := fun j => a (p.1.items.getD j d)) fun j hj => by rw [ra j (by omega), if_pos hj, Int.one_mul], Lp.sm_zero (n := p.2.items.length) fun j hj => by rw [ra _ (by omega), if_neg (by omega), Int.zero_mul], Int.add_zero, ← Lp.ls_sm, ea]
        · have h3 : r = n + 1 := by omega
          subst h3
          rw [t3, Int.mul_one, Lp.sm_zero (n := p.1.items.length) fun j hj => by rw [rb j (by omega), if_pos hj, Int.zero_mul], Lp.sm_congr (n := p.2.items.length) (g := fun j => b (p.2.items.getD j d)) fun j hj => by rw [rb _ (by omega), if_neg (by omega), Int.one_mul], Int.zero_add, ← Lp.ls_sm, eb]
theorem best_mix {n : Nat} {p : Lots} {s : Row} (g : GLots n p) (f : Few n p) (gs : GSup n s) : isBest (weighedV p s) = true ↔ Mix n p s := by
  rw [← feas_mix g gs, ← Lp.best_iff (weigh_ok g f gs).fit]
  unfold weighedV
  rw [gs.len]
  cases e : Lp.solvedL (wRows p n) (s.items ++ [1, 1]) (List.replicate (p.1.items.length + p.2.items.length) 0) (p.1.items.length + p.2.items.length) (n + 2) with
  | best w ws ds => exact Iff.intro (fun _ => ⟨w, ws, ds, rfl⟩) (fun _ => rfl)
  | none w z => exact Iff.intro (fun h => nomatch h) (fun h => by obtain ⟨_, _, _, h⟩ := h; cases h)
/-! ### deals -/
theorem row_ext {n : Nat} {a b : Row} (ha : a.items.length = n) (hb : b.items.length = n) (h : ∀ k, k < n → bit a k = bit b k) : a = b := by
  refine tup_ext (List.ext_getElem? fun i => ?_)
  by_cases hi : i < n
  · have := h i hi
    unfold bit at this
    rw [List.getD_eq_getElem?_getD, List.getD_eq_getElem?_getD, List.getElem?_eq_getElem (by omega), List.getElem?_eq_getElem (by omega)] at this
    rw [List.getElem?_eq_getElem (by omega), List.getElem?_eq_getElem (by omega)]
    exact congrArg some this
  · rw [List.getElem?_eq_none (by omega), List.getElem?_eq_none (by omega)]
theorem bit_zip {n k : Nat} {a b : Row} {f : Int × Int → Int} (ha : a.items.length = n) (hb : b.items.length = n) (hk : k < n) : bit (Tup.mk ((a.items.zip b.items).map f)) k = f (bit a k, bit b k) := by
  unfold bit
  show ((a.items.zip b.items).map f).getD k 0 = _
  rw [List.getD_eq_getElem?_getD, List.getElem?_map, List.getElem?_eq_getElem (by rw [List.length_zip]; omega), List.getD_eq_getElem?_getD, List.getD_eq_getElem?_getD, List.getElem?_eq_getElem (by omega), List.getElem?_eq_getElem (by omega)]
  show f ((a.items.zip b.items)[k]'(by rw [List.length_zip]; omega)) = _
  rw [List.getElem_zip]
  rfl
theorem subR_len {n : Nat} {a b : Row} (ha : a.items.length = n) (hb : b.items.length = n) : (subR a b).items.length = n := by
  show (List.map _ _).length = n
  rw [List.length_map, List.length_zip, ha, hb, Nat.min_self]
theorem sub_eq {n : Nat} {s a b : Row} (hs : s.items.length = n) (ha : a.items.length = n) (hb : b.items.length = n) : subR s a = b ↔ s = addR a b := by
  constructor
  · rintro rfl
    refine row_ext hs (addR_len ha (subR_len hs ha)) fun k hk => ?_
    rw [show addR a (subR s a) = Tup.mk ((a.items.zip (subR s a).items).map fun q => q.1 + q.2) from rfl, bit_zip ha (subR_len hs ha) hk, show bit (subR s a) k = bit s k - bit a k from bit_zip hs ha hk]
    show _ = bit a k + (bit s k - bit a k)
    omega
  · rintro rfl
    refine row_ext (subR_len hs ha) hb fun k hk => ?_
    rw [show bit (subR (addR a b) a) k = bit (addR a b) k - bit a k from bit_zip hs ha hk, show bit (addR a b) k = bit a k + bit b k from bit_zip ha hb hk]
    omega
/-- s is dealt -/
def Dealt (p : Lots) (s : Row) : Prop := ∃ a ∈ p.1.items, ∃ b ∈ p.2.items, s = addR a b
theorem deals_iff {n : Nat} {p : Lots} {s : Row} (g : GLots n p) (hs : s.items.length = n) : dealsV p s ≠ [] ↔ Dealt p s := by
  constructor
  · intro h
    obtain ⟨z, hz⟩ := List.exists_mem_of_ne_nil _ h
    obtain ⟨h1, h2⟩ := List.mem_filter.mp hz
    obtain ⟨a, ha, rfl⟩ := List.mem_map.mp h1
    have h2 : subR s a ∈ p.2.items := of_decide_eq_true h2
    exact ⟨a, ha, _, h2, (sub_eq hs (g.one.len ha) (g.two.len h2)).mp rfl⟩
  · rintro ⟨a, ha, b, hb, rfl⟩ h
    have : (a, subR (addR a b) a) ∈ dealsV p (addR a b) := List.mem_filter.mpr ⟨List.mem_map.mpr ⟨a, ha, rfl⟩, decide_eq_true (by
      show subR (addR a b) a ∈ p.2.items
      rw [(sub_eq hs (g.one.len ha) (g.two.len hb)).mpr rfl]
      exact hb)⟩
    rw [h] at this
    cases this
/-- the word of a supply -/
noncomputable def kind (p : Lots) (s : Row) : Str := if dealsV p s ≠ [] then "deal" else if isBest (weighedV p s) = true then "mixes" else "prices"
theorem dealD_word (p : Lots) (s : Row) : ∃ r, dealD p s = .tuple (.str (kind p s) :: r) := by
  unfold dealD kind
  cases e : dealsV p s with
  | cons z t => exact ⟨_, by rw [if_pos (fun h => nomatch h)]⟩
  | nil =>
    rw [if_neg (fun h => h rfl)]
    cases weighedV p s with
    | best w ws ds => exact ⟨_, rfl⟩
    | none w z => exact ⟨_, rfl⟩
theorem kind_deal {p : Lots} {s : Row} : kind p s = "deal" ↔ dealsV p s ≠ [] := by
  unfold kind
  by_cases h : dealsV p s ≠ []
  · rw [if_pos h]; exact ⟨fun _ => h, fun _ => rfl⟩
  · rw [if_neg h]
    split
    · exact ⟨fun e => absurd e (by decide), fun z => absurd z h⟩
    · exact ⟨fun e => absurd e (by decide), fun z => absurd z h⟩
theorem kind_mixes {p : Lots} {s : Row} : kind p s = "mixes" ↔ dealsV p s = [] ∧ isBest (weighedV p s) = true := by
  unfold kind
  by_cases h : dealsV p s ≠ []
  · rw [if_pos h]; exact ⟨fun e => absurd e (by decide), fun z => absurd z.1 h⟩
  · rw [if_neg h]
    have h' : dealsV p s = [] := Classical.not_not.mp h
    split
    · rename_i b
      exact ⟨fun _ => ⟨h', b⟩, fun _ => rfl⟩
    · rename_i b
      exact ⟨fun e => absurd e (by decide), fun z => absurd z.2 b⟩
theorem kind_prices {p : Lots} {s : Row} : kind p s = "prices" ↔ dealsV p s = [] ∧ isBest (weighedV p s) = false := by
  unfold kind
  by_cases h : dealsV p s ≠ []
  · rw [if_pos h]; exact ⟨fun e => absurd e (by decide), fun z => absurd z.1 h⟩
  · rw [if_neg h]
    have h' : dealsV p s = [] := Classical.not_not.mp h
    split
    · rename_i b
      exact ⟨fun e => absurd e (by decide), fun z => by rw [b] at z; cases z.2⟩
    · rename_i b
      exact ⟨fun _ => ⟨h', by simpa using b⟩, fun _ => rfl⟩
/-- what is dealt is a mix -/
theorem mix_dealt {n : Nat} {p : Lots} {s : Row} (g : GLots n p) (h : Dealt p s) : Mix n p s := by
  obtain ⟨a, ha, b, hb, rfl⟩ := h
  refine ⟨1, fun x => if x = a then 1 else 0, fun x => if x = b then 1 else 0, by decide, fun x _ => ?_, fun x _ => ?_, ?_, ?_, fun k hk => ?_⟩
  · show (0 : Int) ≤ if x = a then 1 else 0
    split <;> decide
  · show (0 : Int) ≤ if x = b then 1 else 0
    split <;> decide
  · rw [Lp.ls_one (lot_nodup g.one.asc) ha fun x _ h => if_neg h, if_pos rfl]
  · rw [Lp.ls_one (lot_nodup g.two.asc) hb fun x _ h => if_neg h, if_pos rfl]
  · rw [Lp.ls_one (lot_nodup g.one.asc) ha fun x _ h => by show (if x = a then (1 : Int) else 0) * _ = 0; rw [if_neg h, Int.zero_mul], Lp.ls_one (lot_nodup g.two.asc) hb fun x _ h => by show (if x = b then (1 : Int) else 0) * _ = 0; rw [if_neg h, Int.zero_mul]]
    show (if a = a then (1 : Int) else 0) * _ + (if b = b then (1 : Int) else 0) * _ = _
    rw [if_pos rfl, if_pos rfl, Int.one_mul, Int.one_mul, Int.one_mul]
    exact (bit_zip (f := fun q => q.1 + q.2) (g.one.len ha) (g.two.len hb) hk).symm
/-- halfway between two mixes -/
theorem mix_half {n : Nat} {p : Lots} {s t u : Row} (h1 : Mix n p s) (h2 : Mix n p t) (hu : ∀ k, k < n → 2 * bit u k = bit s k + bit t k) : Mix n p u := by
  obtain ⟨w, a, b, hw, ha, hb, ea, eb, e⟩ := h1
  obtain ⟨v, c, d, hv, hc, hd, ec, ed, f⟩ := h2
  refine ⟨2 * w * v, fun x => v * a x + w * c x, fun x => v * b x + w * d x, Int.mul_pos (by omega) hv, fun x hx => ?_, fun x hx => ?_, ?_, ?_, fun k hk => ?_⟩
  · exact Int.add_nonneg (Int.mul_nonneg (by omega) (ha x hx)) (Int.mul_nonneg (by omega) (hc x hx))
  · exact Int.add_nonneg (Int.mul_nonneg (by omega) (hb x hx)) (Int.mul_nonneg (by omega) (hd x hx))
  · rw [Lp.ls_add, Lp.ls_mul, Lp.ls_mul, ea, ec]; grind
  · rw [Lp.ls_add, Lp.ls_mul, Lp.ls_mul, eb, ed]; grind
  · have e1 := e k hk
    have e2 := f k hk
    have e3 := hu k hk
    rw [Lp.ls_congr (g := fun x => v * (a x * bit x k) + w * (c x * bit x k)) fun x _ => by grind, Lp.ls_congr (f := fun x => (v * b x + w * d x) * bit x k) (g := fun x => v * (b x * bit x k) + w * (d x * bit x k)) fun x _ => by grind, Lp.ls_add, Lp.ls_add, Lp.ls_mul, Lp.ls_mul, Lp.ls_mul, Lp.ls_mul]
    calc v * ls (fun x => a x * bit x k) p.1.items + w * ls (fun x => c x * bit x k) p.1.items + (v * ls (fun x => b x * bit x k) p.2.items + w * ls (fun x => d x * bit x k) p.2.items) = v * (ls (fun x => a x * bit x k) p.1.items + ls (fun x => b x * bit x k) p.2.items) + w * (ls (fun x => c x * bit x k) p.1.items + ls (fun x => d x * bit x k) p.2.items) := by grind
      _ = v * (w * bit s k) + w * (v * bit t k) := by rw [e1, e2]
      _ = w * v * (bit s k + bit t k) := by grind
      _ = 2 * w * v * bit u k := by rw [← e3]; grind
/-! ### changed over -/
theorem mix_swap {n : Nat} {p : Lots} {s : Row} (h : Mix n p s) : Mix n (p.2, p.1) s := by
  obtain ⟨w, a, b, hw, ha, hb, ea, eb, e⟩ := h
  exact ⟨w, b, a, hw, hb, ha, eb, ea, fun k hk => by rw [← e k hk]; exact Int.add_comm _ _⟩
theorem dealt_swap {n : Nat} {p : Lots} {s : Row} (g : GLots n p) (h : Dealt p s) : Dealt (p.2, p.1) s := by
  obtain ⟨a, ha, b, hb, rfl⟩ := h
  refine ⟨b, hb, a, ha, row_ext (addR_len (g.one.len ha) (g.two.len hb)) (addR_len (g.two.len hb) (g.one.len ha)) fun k hk => ?_⟩
  rw [show bit (addR a b) k = bit a k + bit b k from bit_zip (g.one.len ha) (g.two.len hb) hk, show bit (addR b a) k = bit b k + bit a k from bit_zip (g.two.len hb) (g.one.len ha) hk, Int.add_comm]
theorem GLots.swap {n : Nat} {p : Lots} (g : GLots n p) : GLots n (p.2, p.1) := ⟨g.two, g.one, g.n1⟩
theorem Few.swap {n : Nat} {p : Lots} (f : Few n p) : Few n (p.2, p.1) := ⟨by have := f.1; show p.2.items.length + p.1.items.length ≤ 24; omega, f.2⟩
/-- two kinds of lots whose supplies go into one another have the same words -/
theorem kind_same {n : Nat} {p q : Lots} {s t : Row} (gp : GLots n p) (gq : GLots n q) (fp : Few n p) (fq : Few n q) (gs : GSup n s) (gt : GSup n t) (hd : Dealt p s ↔ Dealt q t) (hm : Mix n p s ↔ Mix n q t) : kind p s = kind q t := by
  have e1 : dealsV p s ≠ [] ↔ dealsV q t ≠ [] := by rw [deals_iff gp gs.len, deals_iff gq gt.len, hd]
  have e2 : isBest (weighedV p s) = true ↔ isBest (weighedV q t) = true := by rw [best_mix gp fp gs, best_mix gq fq gt, hm]
  unfold kind
  by_cases h : dealsV p s ≠ []
  · rw [if_pos h, if_pos (e1.mp h)]
  · rw [if_neg h, if_neg (fun z => h (e1.mpr z))]
    by_cases b : isBest (weighedV p s) = true
    · rw [if_pos b, if_pos (e2.mp b)]
    · rw [if_neg b, if_neg (fun z => b (e2.mpr z))]
theorem kind_swap {n : Nat} {p : Lots} {s : Row} (g : GLots n p) (f : Few n p) (gs : GSup n s) : kind (p.2, p.1) s = kind p s :=
  kind_same g.swap g f.swap f gs gs ⟨fun h => dealt_swap g.swap h, dealt_swap g⟩ ⟨fun h => mix_swap h, mix_swap⟩
end Sp

set_option Elab.async false
set_option linter.all false
set_option maxRecDepth 100000
set_option maxHeartbeats 4000000
namespace Sp
open PySem PySem.Spec PyProof.Rows L2
open PySem.W (Datum DatumOrd Tup)
open Lp (entL ls sm)
/-! ### turned about -/
def bendV (s : Row) (ks : List Int) : Row := Tup.mk (((rangeL 0 s.items.length).zip s.items).map fun q => if decide (q.1 ∈ ks) = true then 2 - q.2 else q.2)
theorem bend_len (s : Row) (ks : List Int) : (bendV s ks).items.length = s.items.length := by
  unfold bendV
  rw [List.length_map, enum_len]
theorem bit_enum {n k : Nat} {s : Row} {f : Int × Int → Int} (hs : s.items.length = n) (hk : k < n) : bit (Tup.mk (((rangeL 0 s.items.length).zip s.items).map f)) k = f ((k : Int), bit s k) := by
  unfold bit
  show (((rangeL 0 (s.items.length : Int)).zip s.items).map f).getD k 0 = _
  rw [enum_map (d := 0), hs, Lp.getD_rm hk]
theorem bit_bend {n k : Nat} {s : Row} {ks : List Int} (hs : s.items.length = n) (hk : k < n) : bit (bendV s ks) k = if (k : Int) ∈ ks then 2 - bit s k else bit s k := by
  rw [show bit (bendV s ks) k = if decide ((k : Int) ∈ ks) = true then 2 - bit s k else bit s k from bit_enum hs hk]
  by_cases h : (k : Int) ∈ ks
  · rw [if_pos h, if_pos (decide_eq_true h)]
  · rw [if_neg h, if_neg (fun z => h (of_decide_eq_true z))]
theorem bit_turn {n k : Nat} {s : Row} {ks : List Int} (hs : s.items.length = n) (hk : k < n) : bit (turnV s ks) k = if (k : Int) ∈ ks then 1 - bit s k else bit s k := by
  rw [show bit (turnV s ks) k = if decide ((k : Int) ∈ ks) = true then 1 - bit s k else bit s k from bit_enum hs hk]
  by_cases h : (k : Int) ∈ ks
  · rw [if_pos h, if_pos (decide_eq_true h)]
  · rw [if_neg h, if_neg (fun z => h (of_decide_eq_true z))]
theorem turn_turn (x : Row) (ks : List Int) : turnV (turnV x ks) ks = x := by
  refine row_ext (n := x.items.length) (by rw [turn_len, turn_len]) rfl fun k hk => ?_
  rw [bit_turn (turn_len x ks) hk, bit_turn rfl hk]
  split <;> omega
theorem bend_bend (x : Row) (ks : List Int) : bendV (bendV x ks) ks = x := by
  refine row_ext (n := x.items.length) (by rw [bend_len, bend_len]) rfl fun k hk => ?_
  rw [bit_bend (bend_len x ks) hk, bit_bend rfl hk]
  split <;> omega
theorem bend_sup {n : Nat} {s : Row} (ks : List Int) (g : GSup n s) : GSup n (bendV s ks) := ⟨by rw [bend_len, g.len], fun x hx => by
  obtain ⟨q, hq, rfl⟩ := List.mem_map.mp hx
  have := g.bits _ (List.of_mem_zip hq).2
  split <;> omega⟩
/-- the lots p turned are q -/
structure TurnOf (ks : List Int) (p q : Lots) : Prop where
  one : q.1.items.Perm (p.1.items.map fun x => turnV x ks)
  two : q.2.items.Perm (p.2.items.map fun x => turnV x ks)
theorem perm_back {ks : List Int} {xs ys : List Row} (h : ys.Perm (xs.map fun x => turnV x ks)) : xs.Perm (ys.map fun x => turnV x ks) := by
  have := (h.map fun x => turnV x ks).symm
  rw [List.map_map, show ((fun x => turnV x ks) ∘ fun x => turnV x ks) = id from funext fun x => turn_turn x ks, List.map_id] at this
  exact this
theorem TurnOf.back {ks : List Int} {p q : Lots} (h : TurnOf ks p q) : TurnOf ks q p := ⟨perm_back h.one, perm_back h.two⟩
theorem mix_turn {n : Nat} {ks : List Int} {p q : Lots} {s : Row} (g : GLots n p) (hs : s.items.length = n) (t : TurnOf ks p q) (h : Mix n p s) : Mix n q (bendV s ks) := by
  obtain ⟨w, a, b, hw, ha, hb, ea, eb, e⟩ := h
  have pos : ∀ (l l' : Lot) (a : Row → Int), (∀ x ∈ l.items, 0 ≤ a x) → l'.items.Perm (l.items.map fun x => turnV x ks) → ∀ x ∈ l'.items, 0 ≤ a (turnV x ks) := fun l l' a h hp x hx => by
    obtain ⟨y, hy, rfl⟩ := List.mem_map.mp (hp.mem_iff.mp hx)
    rw [turn_turn]
    exact h y hy
  have sum0 : ∀ (l l' : Lot) (a : Row → Int), l'.items.Perm (l.items.map fun x => turnV x ks) → ls (fun x => a (turnV x ks)) l'.items = ls a l.items := fun l l' a hp => by
    rw [Lp.ls_perm hp, Lp.ls_map]
    exact Lp.ls_congr fun x _ => by rw [turn_turn]
  have sum1 : ∀ (l l' : Lot) (a : Row → Int) (k : Nat), (∀ x ∈ l.items, x.items.length = n) → k < n → l'.items.Perm (l.items.map fun x => turnV x ks) → ls (fun x => a (turnV x ks) * bit x k) l'.items = if (k : Int) ∈ ks then ls a l.items - ls (fun x => a x * bit x k) l.items else ls (fun x => a x * bit x k) l.items := fun l l' a k hl hk hp => by
    rw [Lp.ls_perm hp, Lp.ls_map]
    split
    · rename_i hm
      rw [← Lp.ls_sub]
      exact Lp.ls_congr fun x hx => by rw [turn_turn, bit_turn (hl x hx) hk, if_pos hm]; grind
    · rename_i hm
      exact Lp.ls_congr fun x hx => by rw [turn_turn, bit_turn (hl x hx) hk, if_neg hm]
  refine ⟨w, fun x => a (turnV x ks), fun x => b (turnV x ks), hw, pos _ _ a ha t.one, pos _ _ b hb t.two, by rw [sum0 _ _ a t.one, ea], by rw [sum0 _ _ b t.two, eb], fun k hk => ?_⟩
  rw [sum1 _ _ a k (fun x hx => g.one.len hx) hk t.one, sum1 _ _ b k (fun x hx => g.two.len hx) hk t.two, bit_bend hs hk]
  have := e k hk
  split
  · rw [ea, eb]
    grind
  · exact this
theorem dealt_turn {n : Nat} {ks : List Int} {p q : Lots} {s : Row} (g : GLots n p) (t : TurnOf ks p q) (h : Dealt p s) : Dealt q (bendV s ks) := by
  obtain ⟨a, ha, b, hb, rfl⟩ := h
  have la := g.one.len ha
  have lb := g.two.len hb
  refine ⟨turnV a ks, t.one.mem_iff.mpr (List.mem_map.mpr ⟨a, ha, rfl⟩), turnV b ks, t.two.mem_iff.mpr (List.mem_map.mpr ⟨b, hb, rfl⟩), ?_⟩
  refine row_ext (n := n) (by rw [bend_len, addR_len la lb]) (addR_len (by rw [turn_len, la]) (by rw [turn_len, lb])) fun k hk => ?_
  rw [bit_bend (addR_len la lb) hk, show bit (addR a b) k = bit a k + bit b k from bit_zip la lb hk, show bit (addR (turnV a ks) (turnV b ks)) k = bit (turnV a ks) k + bit (turnV b ks) k from bit_zip (by rw [turn_len, la]) (by rw [turn_len, lb]) hk, bit_turn la hk, bit_turn lb hk]
  split <;> omega
theorem kind_turn {n : Nat} {ks : List Int} {p q : Lots} {s : Row} (gp : GLots n p) (gq : GLots n q) (fp : Few n p) (fq : Few n q) (gs : GSup n s) (t : TurnOf ks p q) : kind q (bendV s ks) = kind p s := by
  refine (kind_same gp gq fp fq gs (bend_sup ks gs) ⟨dealt_turn gp t, fun h => ?_⟩ ⟨mix_turn gp gs.len t, fun h => ?_⟩).symm
  · have := dealt_turn gq t.back h
    rwa [bend_bend] at this
  · have := mix_turn gq (bend_sup ks gs).len t.back h
    rwa [bend_bend] at this
theorem turn_glot {n : Nat} {l : Lot} (g : GLot n l) (ks : List Int) : GLot n (Tup.mk (msR (l.items.map fun x => turnV x ks))) := by
  have hp : (msR (l.items.map fun x => turnV x ks)).Perm (l.items.map fun x => turnV x ks) := List.mergeSort_perm _ _
  refine ⟨fun e => ?_, fun x hx => ?_, msort_tlt ?_, ?_⟩
  · have e : msR (l.items.map fun x => turnV x ks) = [] := e
    have := hp.length_eq
    rw [e, List.length_map] at this
    exact g.ne (List.length_eq_zero_iff.mp this.symm)
  · obtain ⟨y, hy, rfl⟩ := List.mem_map.mp (hp.mem_iff.mp hx)
    exact ⟨by rw [turn_len, g.len hy], turn_bits (g.plans y hy).bits ks⟩
  · exact List.Pairwise.map _ (fun a b h e => h (by rw [← turn_turn a ks, e, turn_turn])) (lot_nodup g.asc)
  · show (msR (l.items.map fun x => turnV x ks)).length ≤ 1000
    rw [hp.length_eq, List.length_map]
    exact g.small
theorem turn_few {l : Lot} (ks : List Int) : (Tup.mk (msR (l.items.map fun x => turnV x ks)) : Lot).items.length = l.items.length := by
  show (msR (l.items.map fun x => turnV x ks)).length = _
  rw [show (msR (l.items.map fun x => turnV x ks)).length = (l.items.map fun x => turnV x ks).length from (List.mergeSort_perm _ _).length_eq, List.length_map]
def turnP (p : Lots) (ks : List Int) : Lots := (Tup.mk (msR (p.1.items.map fun x => turnV x ks)), Tup.mk (msR (p.2.items.map fun x => turnV x ks)))
theorem turnP_g {n : Nat} {p : Lots} (g : GLots n p) (ks : List Int) : GLots n (turnP p ks) := ⟨turn_glot g.one ks, turn_glot g.two ks, g.n1⟩
theorem turnP_f {n : Nat} {p : Lots} (f : Few n p) (ks : List Int) : Few n (turnP p ks) := ⟨by unfold turnP; rw [turn_few, turn_few]; exact f.1, f.2⟩
theorem turnP_t (p : Lots) (ks : List Int) : TurnOf ks p (turnP p ks) := ⟨List.mergeSort_perm _ _, List.mergeSort_perm _ _⟩
/-! ### rows of supplies -/
theorem everyS_asc0 : ∀ m : Fin 4, (everyS m.val).Pairwise tlt := by decide +kernel
theorem everyS_asc {n : Nat} (h : n ≤ 3) : (everyS n).Pairwise tlt := everyS_asc0 ⟨n, by omega⟩
theorem sort_asc {xs : List Row} (h : xs.Pairwise tlt) : msR xs = xs := List.mergeSort_of_pairwise (h.imp fun {a b} h => by
  show (!(PySem.W.listLt b.items a.items)) = true
  cases e : PySem.W.listLt b.items a.items with
  | false => rfl
  | true =>
    have := ll_trans h e
    rw [ll_irr] at this
    cases this)
/-- the barred, the dealt supplies -/
noncomputable def barL (p : Lots) (n : Nat) : List Row := (everyS n).filter fun s => decide (kind p s = "mixes")
noncomputable def dealL (p : Lots) (n : Nat) : List Row := (everyS n).filter fun s => decide (kind p s = "deal")
theorem barV_head (p : Lots) (n : Nat) : barV p n = (barL p n).head? := by
  unfold barV supsV barL
  rw [← List.head?_filter, List.filter_filter]
  congr 2
  funext s
  rw [Bool.eq_iff_iff, Bool.and_eq_true, decide_eq_true_eq, decide_eq_true_eq, kind_mixes]
theorem barL_swap {n : Nat} {p : Lots} (g : GLots n p) (f : Few n p) : barL (p.2, p.1) n = barL p n := by
  unfold barL
  refine List.filter_congr fun s hs => ?_
  rw [kind_swap g f (everyS_iff.mp hs)]
theorem barL_bent {n : Nat} {p : Lots} (g : GLots n p) (f : Few n p) (hn : n ≤ 3) (ks : List Int) : msR ((barL p n).map fun s => bendV s ks) = barL (turnP p ks) n := by
  have gp := turnP_g g ks
  have fp := turnP_f f ks
  refine asc_unique (msort_tlt ?_) ((everyS_asc hn).filter _) fun z => ?_
  · exact List.Pairwise.map _ (fun a b h e => h (by rw [← bend_bend a ks, e, bend_bend])) (lot_nodup ((everyS_asc hn).filter _))
  · rw [show z ∈ msR ((barL p n).map fun s => bendV s ks) ↔ z ∈ (barL p n).map fun s => bendV s ks from (List.mergeSort_perm _ _).mem_iff]
    constructor
    · intro h
      obtain ⟨s, hs, rfl⟩ := List.mem_map.mp h
      obtain ⟨h1, h2⟩ := List.mem_filter.mp hs
      have gs := everyS_iff.mp h1
      refine List.mem_filter.mpr ⟨everyS_iff.mpr (bend_sup ks gs), ?_⟩
      rw [kind_turn g gp f fp gs (turnP_t p ks)]
      exact h2
    · intro h
      obtain ⟨h1, h2⟩ := List.mem_filter.mp h
      have gs := everyS_iff.mp h1
      refine List.mem_map.mpr ⟨bendV z ks, List.mem_filter.mpr ⟨everyS_iff.mpr (bend_sup ks gs), ?_⟩, bend_bend z ks⟩
      have := kind_turn g gp f fp (bend_sup ks gs) (turnP_t p ks)
      rw [bend_bend] at this
      rw [← this]
      exact h2
theorem dealL_mem {n : Nat} {p : Lots} (g : GLots n p) {s : Row} : s ∈ dealL p n ↔ GSup n s ∧ Dealt p s := by
  unfold dealL
  rw [List.mem_filter, everyS_iff, decide_eq_true_eq, kind_deal]
  exact ⟨fun ⟨h1, h2⟩ => ⟨h1, (deals_iff g h1.len).mp h2⟩, fun ⟨h1, h2⟩ => ⟨h1, (deals_iff g h1.len).mpr h2⟩⟩
theorem sums_mem {p : Lots} {s : Row} : s ∈ sumsL p ↔ Dealt p s := by
  unfold sumsL Dealt
  rw [List.mem_flatMap]
  constructor
  · rintro ⟨a, ha, h⟩
    obtain ⟨b, hb, rfl⟩ := List.mem_map.mp h
    exact ⟨a, ha, b, hb, rfl⟩
  · rintro ⟨a, ha, b, hb, rfl⟩
    exact ⟨a, ha, List.mem_map.mpr ⟨b, hb, rfl⟩⟩
theorem sums_deal {n : Nat} {p : Lots} (g : GLots n p) (hn : n ≤ 3) : sset (sumsL p) = dealL p n := by
  refine asc_unique (asc_sset _) ((everyS_asc hn).filter _) fun z => ?_
  rw [mem_sset, dealL_mem g, sums_mem]
  exact ⟨fun h => ⟨sums_sup g z (sums_mem.mpr h), h⟩, fun h => h.2⟩
theorem dealL_ne {n : Nat} {p : Lots} (g : GLots n p) : dealL p n ≠ [] := by
  obtain ⟨a, ha⟩ := List.exists_mem_of_ne_nil _ g.one.ne
  obtain ⟨b, hb⟩ := List.exists_mem_of_ne_nil _ g.two.ne
  have h : Dealt p (addR a b) := ⟨a, ha, b, hb, rfl⟩
  exact List.ne_nil_of_mem ((dealL_mem g).mpr ⟨sums_sup g _ (sums_mem.mpr h), h⟩)
/-! ### one plan alone, all plans -/
theorem one_glot {n : Nat} {q : Row} (h : GPlan n q) : GLot n (Tup.mk [q]) := ⟨List.cons_ne_nil _ _, fun x hx => (List.mem_singleton.mp hx) ▸ h, List.pairwise_singleton _ _, by show 1 ≤ 1000; decide⟩
theorem all_glot {n : Nat} (hn : 1 ≤ n ∧ n ≤ 3) : GLot n (Tup.mk (everyV (n : Int))) := ⟨(every_le (by omega)).2, fun x hx => every_plan (by omega) hx, every_asc (by omega), by have := (every_le (m := n) (by omega)).1; show (everyV (n : Int)).length ≤ 1000; omega⟩
theorem one_dealt {n : Nat} {l : Lot} {q s : Row} (g : GLot n l) (hq : GPlan n q) (gs : GSup n s) (h : Mix n (l, Tup.mk [q]) s) : Dealt (l, Tup.mk [q]) s := by
  obtain ⟨w, a, b, hw, ha, hb, ea, eb, e⟩ := h
  have eb : b q = w := by
    have : ls b [q] = w := eb
    rw [Lp.ls_cons] at this
    simpa [ls] using this
  have e : ∀ k, k < n → ls (fun x => a x * bit x k) l.items + w * bit q k = w * bit s k := fun k hk => by
    have := e k hk
    rw [show ls (fun x => b x * bit x k) (Tup.mk [q] : Lot).items = b q * bit q k by
      show ls (fun x => b x * bit x k) [q] = _
      rw [Lp.ls_cons]
      simp [ls], eb] at this
    exact this
  obtain ⟨p0, hp0, hpos⟩ := Lp.ls_pos (f := a) (xs := l.items) (by rw [ea]; exact hw)
  refine ⟨p0, hp0, q, List.mem_singleton.mpr rfl, row_ext gs.len (addR_len (g.len hp0) hq.len) fun k hk => ?_⟩
  rw [show bit (addR p0 q) k = bit p0 k + bit q k from bit_zip (g.len hp0) hq.len hk]
  have hbit : ∀ x ∈ l.items, bit x k = 0 ∨ bit x k = 1 := fun x hx => (g.plans x hx).bits _ (Lp.getD_mem (by rw [g.len hx]; exact hk))
  have e1 := e k hk
  have e2 : ls (fun x => a x * bit x k) l.items = w * (bit s k - bit q k) := by grind
  have n1 : 0 ≤ ls (fun x => a x * bit x k) l.items := Lp.ls_nonneg fun x hx => Int.mul_nonneg (ha x hx) (by have := hbit x hx; omega)
  have n2 : 0 ≤ ls (fun x => a x * (1 - bit x k)) l.items := Lp.ls_nonneg fun x hx => Int.mul_nonneg (ha x hx) (by have := hbit x hx; omega)
  have e3 : ls (fun x => a x * (1 - bit x k)) l.items = w - ls (fun x => a x * bit x k) l.items := by
    rw [← show ls a l.items = w from ea, ← Lp.ls_sub]
    exact Lp.ls_congr fun x _ => by grind
  have lo : 0 ≤ bit s k - bit q k := by
    rw [e2] at n1
    exact Int.nonneg_of_mul_nonneg_right n1 hw
  have hi : 0 ≤ 1 - (bit s k - bit q k) := by
    rw [e3, e2] at n2
    have n3 : 0 ≤ w * (1 - (bit s k - bit q k)) := by
      rw [show w * (1 - (bit s k - bit q k)) = w - w * (bit s k - bit q k) by grind]
      exact n2
    exact Int.nonneg_of_mul_nonneg_right n3 hw
  have hp := hbit p0 hp0
  by_cases t : bit s k - bit q k = 0
  · have z := Lp.ls_eq0 (f := fun x => a x * bit x k) (fun x hx => Int.mul_nonneg (ha x hx) (by have := hbit x hx; omega)) (by rw [e2, t, Int.mul_zero]) p0 hp0
    have z : a p0 * bit p0 k = 0 := z
    rcases Int.mul_eq_zero.mp z with z | z <;> omega
  · have z := Lp.ls_eq0 (f := fun x => a x * (1 - bit x k)) (fun x hx => Int.mul_nonneg (ha x hx) (by have := hbit x hx; omega)) (by rw [e3, e2, show bit s k - bit q k = 1 by omega, Int.mul_one, Int.sub_self]) p0 hp0
    have z : a p0 * (1 - bit p0 k) = 0 := z
    rcases Int.mul_eq_zero.mp z with z | z <;> omega
theorem barV_none {n : Nat} {p : Lots} (g : GLots n p) (f : Few n p) (h : ∀ s, GSup n s → Mix n p s → Dealt p s) : barV p n = none := by
  rw [barV_head]
  have : barL p n = [] := by
    unfold barL
    rw [List.filter_eq_nil_iff]
    intro s hs hk
    have gs := everyS_iff.mp hs
    obtain ⟨h1, h2⟩ := kind_mixes.mp (of_decide_eq_true hk)
    exact (deals_iff g gs.len).mpr (h s gs ((best_mix g f gs).mp h2)) h1
  rw [this]
  rfl
theorem bar_one {n : Nat} {l : Lot} {q : Row} (g : GLot n l) (hq : GPlan n q) (hn : 1 ≤ n ∧ n ≤ 3) (hl : l.items.length ≤ 6) : barV (l, Tup.mk [q]) n = none :=
  barV_none ⟨g, one_glot hq, by omega⟩ ⟨by show l.items.length + 1 ≤ 24; omega, by omega⟩ fun s gs h => one_dealt g hq gs h
theorem bar_one' {n : Nat} {l : Lot} {q : Row} (g : GLot n l) (hq : GPlan n q) (hn : 1 ≤ n ∧ n ≤ 3) (hl : l.items.length ≤ 6) : barV (Tup.mk [q], l) n = none := by
  have gg : GLots n (l, Tup.mk [q]) := ⟨g, one_glot hq, by omega⟩
  have ff : Few n (l, Tup.mk [q]) := ⟨by show l.items.length + 1 ≤ 24; omega, by omega⟩
  have := bar_one g hq hn hl
  rw [barV_head] at this ⊢
  rw [← this]
  exact congrArg _ (barL_swap gg ff)
theorem all_deal0 : ∀ m : Fin 4, ∀ s ∈ everyS m.val, dealsV (Tup.mk (everyV (m.val : Int)), Tup.mk (everyV (m.val : Int))) s ≠ [] := by decide +kernel
theorem bar_all {n : Nat} (hn : 1 ≤ n ∧ n ≤ 3) : barV (Tup.mk (everyV (n : Int)), Tup.mk (everyV (n : Int))) n = none := by
  have he := every_len (m := n) (by omega)
  have h8 : 2 ^ n ≤ 2 ^ 3 := Nat.pow_le_pow_right (by decide) hn.2
  have g : GLots n (Tup.mk (everyV (n : Int)), Tup.mk (everyV (n : Int))) := ⟨all_glot hn, all_glot hn, by omega⟩
  exact barV_none g ⟨by show (everyV (n : Int)).length + (everyV (n : Int)).length ≤ 24; omega, by omega⟩ fun s gs _ => (deals_iff g gs.len).mp (all_deal0 ⟨n, by omega⟩ s (everyS_iff.mpr gs))
/-! ### fewer plans -/
theorem few_glot {n : Nat} {l : Lot} {ys : List Row} (g : GLot n l) (hn : ys.Nodup) (hne : ys ≠ []) (hs : ∀ y ∈ ys, y ∈ l.items) (hl : ys.length ≤ 1000) : GLot n (Tup.mk (msR ys)) := by
  have hp : (msR ys).Perm ys := List.mergeSort_perm _ _
  refine ⟨fun e => ?_, fun x hx => g.plans x (hs x (hp.mem_iff.mp hx)), msort_tlt hn, by show (msR ys).length ≤ 1000; rw [hp.length_eq]; exact hl⟩
  have e : msR ys = [] := e
  have := hp.length_eq
  rw [e] at this
  exact hne (List.length_eq_zero_iff.mp this.symm)
theorem few_mix {n : Nat} {l l' m : Lot} {s : Row} (g : GLot n l) (g' : GLot n l') (hs : ∀ y ∈ l'.items, y ∈ l.items) (h : Mix n (l', m) s) : Mix n (l, m) s := by
  obtain ⟨w, a, b, hw, ha, hb, ea, eb, e⟩ := h
  have n1 := lot_nodup g'.asc
  have n2 := lot_nodup g.asc
  refine ⟨w, fun x => if x ∈ l'.items then a x else 0, b, hw, fun x _ => ?_, hb, ?_, eb, fun k hk => ?_⟩
  · show (0 : Int) ≤ if x ∈ l'.items then a x else 0
    split
    · exact ha x (by assumption)
    · exact Int.le_refl _
  · rw [← Lp.ls_part n1 n2 hs]
    exact ea
  · rw [← e k hk]
    congr 1
    show _ = ls (fun x => a x * bit x k) l'.items
    rw [Lp.ls_part n1 n2 hs]
    refine Lp.ls_congr fun x _ => ?_
    show (if x ∈ l'.items then a x else 0) * bit x k = if x ∈ l'.items then a x * bit x k else 0
    split
    · rfl
    · exact Int.zero_mul _
theorem few_kind {n : Nat} {l l' m : Lot} {s : Row} (g : GLots n (l, m)) (g' : GLots n (l', m)) (f : Few n (l, m)) (f' : Few n (l', m)) (gs : GSup n s) (hs : ∀ y ∈ l'.items, y ∈ l.items) (h : kind (l, m) s = "prices") : kind (l', m) s = "prices" := by
  obtain ⟨h1, h2⟩ := kind_prices.mp h
  refine kind_prices.mpr ⟨Classical.byContradiction fun z => ?_, ?_⟩
  · obtain ⟨a, ha, b, hb, e⟩ := (deals_iff g' gs.len).mp z
    exact (deals_iff g gs.len).mpr ⟨a, hs a ha, b, hb, e⟩ h1
  · cases e : isBest (weighedV (l', m) s) with
    | false => rfl
    | true =>
      have := (best_mix g f gs).mpr (few_mix g.one g'.one hs ((best_mix g' f' gs).mp e))
      rw [this] at h2
      cases h2
theorem few_lost {n : Nat} {l l' m : Lot} (g : GLots n (l, m)) (hn : n ≤ 3) (hs : ∀ y ∈ l'.items, y ∈ l.items) (g' : GLots n (l', m)) : ∀ s ∈ sset (sumsL (l', m)), s ∈ dealL (l, m) n := fun s h => by
  obtain ⟨a, ha, b, hb, e⟩ := sums_mem.mp (mem_sset.mp h)
  exact (dealL_mem g).mpr ⟨sums_sup g' s (mem_sset.mp h), a, hs a ha, b, hb, e⟩
/-! ### halfway -/
def halfV (one two : Row) : Row := Tup.mk ((one.items.zip two.items).map fun q => (q.1 + q.2).fdiv 2)
theorem half_sup {n : Nat} {a b : Row} (ha : GSup n a) (hb : GSup n b) : GSup n (halfV a b) := ⟨by
  show (List.map _ _).length = n
  rw [List.length_map, List.length_zip, ha.len, hb.len, Nat.min_self], fun x hx => by
  obtain ⟨q, hq, rfl⟩ := List.mem_map.mp hx
  have h1 := ha.bits _ (List.of_mem_zip hq).1
  have h2 := hb.bits _ (List.of_mem_zip hq).2
  rw [Int.fdiv_eq_ediv_of_nonneg _ (by decide)]
  omega⟩
theorem half_kind {n : Nat} {p : Lots} {a b : Row} (g : GLots n p) (f : Few n p) (ha : a ∈ dealL p n) (hb : b ∈ dealL p n) (he : ∀ k, k < n → (bit a k + bit b k).fmod 2 ≠ 1) : kind p (halfV a b) ≠ "prices" := fun h => by
  obtain ⟨ga, da⟩ := (dealL_mem g).mp ha
  obtain ⟨gb, db⟩ := (dealL_mem g).mp hb
  have gh := half_sup ga gb
  have := (best_mix g f gh).mpr (mix_half (mix_dealt g da) (mix_dealt g db) fun k hk => by
    rw [show bit (halfV a b) k = (bit a k + bit b k).fdiv 2 from bit_zip ga.len gb.len hk]
    have := he k hk
    rw [Int.fmod_eq_emod_of_nonneg _ (by decide)] at this
    rw [Int.fdiv_eq_ediv_of_nonneg _ (by decide)]
    omega)
  rw [(kind_prices.mp h).2] at this
  cases this
end Sp

set_option Elab.async false
set_option linter.all false
set_option maxRecDepth 100000
set_option maxHeartbeats 4000000
namespace Sp
open PySem PySem.Spec PyProof.Rows L2
open PySem.W (Datum DatumOrd Tup)

def R_law_rows_to : List PyData → PyData → Prop := fun ds r => ∃ n : Nat, ds = [.int (n : Int), .int 0, .int 2] ∧ n ≤ 5 ∧ r = Datum.toD (everyS n)
theorem R_law_rows_to_mk {n : Nat} (h : n ≤ 5) : R_law_rows_to [Datum.toD (n : Int), Datum.toD (0 : Int), Datum.toD (2 : Int)] (Datum.toD (everyS n)) := ⟨n, rfl, h, rfl⟩
theorem grow_take {xs : List Row} {j : Nat} {x : Row} (h : xs[j]? = some x) : grow (xs.take (j + 1)) = grow (xs.take j) ++ (rangeL 0 (2 + 1)).map fun its => Tup.mk (x.items ++ [its]) := by
  rw [List.take_add_one, h, grow, grow, List.flatMap_append]
  congr 1
theorem grow_len : ∀ {xs : List Row}, (grow xs).length = xs.length * 3
  | [] => rfl
  | x :: xs => by
    have e : grow (x :: xs) = (([0, 1, 2] : List Int).map fun more => Tup.mk (x.items ++ [more])) ++ grow xs := rfl
    rw [e, List.length_append, grow_len, List.length_cons, List.length_map]
    show 3 + _ = _
    omega
section
variable {P : Program} {w : World} {K : PySem.W.Frag} {mg : Str → Option Value} {base : Heap}
theorem sc_law_rows_to : FnScope ["many_so", "low", "high", "found", "lap", "later", "own", "its"] ["many_so", "low", "high"] (defScope (top 65)) := ⟨rfl, rfl, rfl, by decide +kernel, rfl, by decide +kernel, by decide +kernel⟩
theorem c__law_rows_to (B : Bn mg) (D : DefIn K mg "_law_rows_to" (top 65)) : C8.Cal P w K mg base 1 "_law_rows_to" (SpG K R_law_rows_to) [] := by
  refine cal_pure (R := R_law_rows_to) D sc_law_rows_to (fun _ _ _ _ _ _ us hl => match us, hl with | [_, _, _], _ => rfl) (by
    rintro ds r ⟨_, rfl, _⟩; rfl) fun f cdv A outer s H E hr => ⟨_, (pss_cons (ps_set (i := 3) sc_law_rows_to.nd rfl (by first | exact Or.inl rfl | exact Or.inr rfl) (pe_lst (pa_cons (pe_tup pa_nil) pa_nil)))
    (pss_cons (ps_for PassesOwn.never rfl (pi_range1 (by rfl) B.range (pa_cons (pv 0) pa_nil)) (pg_name (i := 4) sc_law_rows_to.nd rfl (by first | exact Or.inl rfl | exact Or.inr rfl)) (pss_cons (ps_set (i := 5) sc_law_rows_to.nd rfl (by first | exact Or.inl rfl | exact Or.inr rfl) (pe_lst pa_nil))
    (pss_cons (ps_for PassesOwn.never rfl (pi_seqX (pv 3) : PI _ _ _ (iSeqX K _)) (pg_name (i := 6) sc_law_rows_to.nd rfl (by first | exact Or.inl rfl | exact Or.inr rfl)) (pss_one (ps_set (i := 5) sc_law_rows_to.nd rfl (by first | exact Or.inl rfl | exact Or.inr rfl) (pe_op op_catL (pv 5) (pe_lc rfl sc_law_rows_to.nd (pi_range2 (by rfl) B.range (pa_cons (pv 1) (pa_cons (pe_op op_add (pv 2) pe_int) pa_nil))) (blkOk_by (own := [("its", 7)]) (by kernel_rfl)) (fun _ _ _ _ _ => (pg_name (i := 7) sc_law_rows_to.nd rfl (by first | exact Or.inl rfl | exact Or.inr rfl))) (fun _ _ _ _ _ => pts_nil) (fun _ _ _ _ _ => (pe_op (op_catA : OpR _ _ (rCatA K)) (pv 6) (pe_tup (pa_cons (pv 7) pa_nil)))))))))
    (pss_one (ps_set (i := 3) sc_law_rows_to.nd rfl (by first | exact Or.inl rfl | exact Or.inr rfl) (pv 5))))))
    (pss_one (ps_ret (pv 3))))), ?_⟩
  rintro F vs ds r ⟨n, rfl, hn, rfl⟩ hv
  obtain ⟨v_m, v_l, v_h, rfl, r_m, r_l, r_h⟩ := dq3 hv
  replace r_m : Rp K F v_m (n : Int) := r_m
  replace r_l : Rp K F v_l (0 : Int) := r_l
  replace r_h : Rp K F v_h (2 : Int) := r_h
  refine er_set (x := everyS 0) (ev_dL (es_cons (ev_dT es_nil) es_nil)) fun F1 v1 s1 r1 => ?_
  have r_m1 := r_m.mono s1
  refine er_for (ei_rng1 (ev_var (i := 0) rfl r_m1) ?_ ?_) (fun i F' σ' => ∃ v o4 o5 o6, σ' = [some v_m, some v_l, some v_h, some v, o4, o5, o6, none] ∧ Rp K F' v (everyS i)) (fun i F1 F2 σ' s h => ?_) ⟨v1, none, none, none, rfl, r1⟩ (fun i F2 v y σ' s2 hy r hp => ?_) (fun F2 σ' s2 hp => ?_)
  · omega
  · omega
  · obtain ⟨v, o4, o5, o6, rfl, h⟩ := h
    exact ⟨v, o4, o5, o6, rfl, h.mono s⟩
  · obtain ⟨vf, o4, o5, o6, rfl, r2⟩ := hp
    have hi : i < n := by
      have := (List.getElem?_eq_some_iff.mp hy).1
      rw [rangeL_len] at this
      omega
    have h5 : 3 ^ i ≤ 3 ^ 5 := Nat.pow_le_pow_right (by decide) (by omega)
    have hlen : (everyS i).length ≤ 243 := by rw [everyS_len]; omega
    refine lcb_name (enk_setP (K := K) (x := ([] : List Row)) (ev_dL es_nil) fun F3 v3 s3 r3 => ?_)
    have r_l3 := (r_l.mono s1).mono (s2.trans s3)
    have r_h3 := (r_h.mono s1).mono (s2.trans s3)
    refine en_seq (en_for (xs := everyS i) (ei_list (ev_var (i := 3) rfl (r2.mono s3))) (fun j F' σ' => ∃ w o6, σ' = [some v_m, some v_l, some v_h, some vf, some v, some w, o6, none] ∧ Rp K F' w (grow ((everyS i).take j))) (fun j F1 F2 σ' s h => ?_) ⟨v3, _, rfl, by rw [List.take_zero]; exact r3⟩ fun j F4 u x σ' s4 hx ru hq => ?_) fun F4 σ' s4 hq => ?_
    · obtain ⟨w, o6, rfl, h⟩ := h
      exact ⟨w, o6, rfl, h.mono s⟩
    · obtain ⟨w, o6, rfl, r4⟩ := hq
      have hj := (List.getElem?_eq_some_iff.mp hx).1
      have hxm : x ∈ everyS i := List.mem_of_getElem? hx
      refine lcb_name (en_set (x := grow ((everyS i).take (j + 1))) (Ev.cast (ev_catL (ev_var (i := 5) rfl r4) (ev_lc1 (ei_rng2 (ev_var (i := 1) rfl (r_l3.mono s4)) (ev_i0 (ev_var (i := 2) rfl (r_h3.mono s4)) ev_int) (by decide) (by decide)) fun F5 v5 x5 s5 hx5 r5 => lcb_name ⟨rfl, ev_catT (ev_var (i := 6) rfl (ru.mono s5)) (ev_dT (es_cons (ev_var (i := 7) rfl r5) es_nil)) ?_⟩) ?_) (grow_take hx).symm) fun F5 v5 s5 r5 => ⟨v5, _, rfl, r5⟩)
      · have := (everyS_iff.mp hxm).len
        show x.items.length + 1 ≤ sizeLine
        unfold sizeLine
        omega
      · rw [grow_len, List.length_take, List.length_map]
        show _ + 3 ≤ sizeLine
        unfold sizeLine
        omega
    · obtain ⟨w, o6', rfl, r4⟩ := hq
      rw [List.take_length] at r4
      exact en_set (x := everyS (i + 1)) (ev_var (i := 5) rfl r4) fun F5 v5 s5 r5 => ⟨v5, _, _, _, rfl, r5⟩
  · obtain ⟨vf, o4, o5, o6, rfl, r2⟩ := hp
    rw [rangeL_len, show ((n : Int) - 0).toNat = n by omega] at r2
    exact er_retE (ev_var (i := 3) rfl r2) rfl

end
end Sp

set_option Elab.async false
set_option linter.all false
set_option maxRecDepth 100000
set_option maxHeartbeats 4000000
namespace Sp
open PySem PySem.Spec PyProof.Rows L2
open PySem.W (Datum DatumOrd Tup)

/-! ### data without lists -/
theorem tupD_mk {xs : List PyData} (h : ∀ d ∈ xs, tupD d = d) : tupD (.tuple xs) = .tuple xs := by
  rw [tupD, tupDA_map]
  congr 1
  conv => rhs; rw [← List.map_id xs]
  exact List.map_congr_left h
theorem dpt_mk {xs : List PyData} {k : Nat} (h : ∀ d ∈ xs, dpt d ≤ k) : dpt (.tuple xs) ≤ k + 1 := by
  rw [dpt]
  have := dptA_of h
  omega
theorem tupD_tup {α : Type} [DecidableEq α] [Datum α] {t : Tup α} (h : ∀ x : α, tupD (Datum.toD x) = Datum.toD x) : tupD (Datum.toD t) = Datum.toD t := tupD_mk fun d hd => by
  obtain ⟨x, _, rfl⟩ := List.mem_map.mp hd
  exact h x
theorem dpt_tup {α : Type} [DecidableEq α] [Datum α] {t : Tup α} {k : Nat} (h : ∀ x : α, dpt (Datum.toD x) ≤ k) : dpt (Datum.toD t) ≤ k + 1 := dpt_mk fun d hd => by
  obtain ⟨x, _, rfl⟩ := List.mem_map.mp hd
  exact h x
theorem tupD_int (x : Int) : tupD (Datum.toD x) = Datum.toD x := rfl
theorem dpt_int (x : Int) : dpt (Datum.toD x) ≤ 0 := Nat.le_refl 0
theorem tupD_row (x : Row) : tupD (Datum.toD x) = Datum.toD x := tupD_tup tupD_int
theorem dpt_row (x : Row) : dpt (Datum.toD x) ≤ 1 := dpt_tup dpt_int
theorem tupD_lot (x : Lot) : tupD (Datum.toD x) = Datum.toD x := tupD_tup tupD_row
theorem dpt_lot (x : Lot) : dpt (Datum.toD x) ≤ 2 := dpt_tup dpt_row
theorem tupD_hs (x : Hs) : tupD (Datum.toD x) = Datum.toD x := tupD_tup tupD_lot
theorem dpt_hs (x : Hs) : dpt (Datum.toD x) ≤ 3 := dpt_tup dpt_lot
theorem dpt_lst_mk {xs : List PyData} {k : Nat} (h : ∀ d ∈ xs, dpt d ≤ k) : dpt (.list xs) ≤ k + 1 := by
  rw [dpt]
  have := dptA_of h
  omega
theorem dpt_rows (x : List Row) : dpt (Datum.toD x) ≤ 2 := dpt_lst_mk fun d hd => by
  obtain ⟨y, _, rfl⟩ := List.mem_map.mp hd
  exact dpt_row y
theorem is_lot (x : Lot) : dpt (Datum.toD x) ≤ 4 ∧ tupD (Datum.toD x) = Datum.toD x := ⟨Nat.le_trans (dpt_lot _) (by decide), tupD_lot _⟩
theorem is_lotL (x : Lot) : dpt (lstD (Datum.toD x)) ≤ 4 ∧ tupD (lstD (Datum.toD x)) = Datum.toD x := ⟨by rw [dpt_lst]; exact (is_lot x).1, by rw [tup_lst, tupD_lot]⟩
theorem is_row (x : Row) : dpt (Datum.toD x) ≤ 4 ∧ tupD (Datum.toD x) = Datum.toD x := ⟨Nat.le_trans (dpt_row _) (by decide), tupD_row _⟩
theorem k_lists {d : PyData} (h : dpt d ≤ 3) : R_law_lists 4 [d] (lstD d) := ⟨d, rfl, by omega, rfl⟩
theorem k_same {d : PyData} (h : dpt d ≤ 6) : R_law_same 6 [d, d] (Datum.toD true) := ⟨d, rfl, h, rfl⟩
theorem dptL {xs : List PyData} (h : ∀ d ∈ xs, dpt d ≤ 5) : dpt (.list xs) ≤ 6 := dpt_lst_mk h
theorem dpt_opt : ∀ o : Option Row, dpt (optR o) ≤ 5
  | none => Nat.zero_le _
  | some x => Nat.le_trans (dpt_row x) (by decide)
theorem dpt_bool (b : Bool) : dpt (Datum.toD b) ≤ 5 := Nat.zero_le _
/-! ### what the calls of the law ask -/
theorem told_t {n : Nat} {p : Lots} (g : GLots n p) : Told2 n (Datum.toD p.1) (Datum.toD p.2) p := ⟨is_lot _, is_lot _, g⟩
theorem k_bar {n : Nat} {p : Lots} (g : GLots n p) (f : Few n p) : R_barred_supply [Datum.toD p.1, Datum.toD p.2] (optR (barV p n)) := ⟨_, _, rfl, p, n, told_t g, f, rfl⟩
theorem k_barL {n : Nat} {p : Lots} (g : GLots n p) (f : Few n p) : R_barred_supply [lstD (Datum.toD p.1), Datum.toD p.2] (optR (barV p n)) := ⟨_, _, rfl, p, n, ⟨is_lotL _, is_lot _, g⟩, f, rfl⟩
theorem k_all {n : Nat} {p : Lots} (g : GLots n p) (f : Few n p) : R_all_dealt [Datum.toD p.1, Datum.toD p.2] (Datum.toD (barV p n).isNone) := ⟨_, _, rfl, p, n, told_t g, f, rfl⟩
theorem k_sums {n : Nat} {p : Lots} (g : GLots n p) (h : p.1.items.length * p.2.items.length < 64) : R_sums [Datum.toD p.1, Datum.toD p.2] (Datum.toD (Tup.mk (sset (sumsL p)) : Lot)) := ⟨_, _, rfl, p, n, told_t g, h, rfl⟩
theorem k_deals {n : Nat} {p : Lots} {s : Row} (g : GLots n p) (h : GSup n s) : R_deals [Datum.toD p.1, Datum.toD p.2, Datum.toD s] (Datum.toD (Tup.mk (dealsV p s))) := ⟨_, _, _, rfl, p, s, n, told_t g, ⟨(is_row s).1, (is_row s).2, h⟩, rfl⟩
theorem k_paper {n : Nat} {p : Lots} {s : Row} (g : GLots n p) (f : Few n p) (h : GSup n s) : R_deal_paper [Datum.toD p.1, Datum.toD p.2, Datum.toD s] (dealD p s) := ⟨_, _, _, rfl, p, s, n, told_t g, f, ⟨(is_row s).1, (is_row s).2, h⟩, rfl⟩
theorem k_turned {n : Nat} {p : Lots} {ks : Row} (g : GLots n p) (h : GPlaces n ks) : R_turned_houses [Datum.toD p, Datum.toD ks] (Datum.toD (turnP p ks.items)) := ⟨Datum.toD (Tup.mk [p.1, p.2] : Hs), _, rfl, Tup.mk [p.1, p.2], ks, n, Nat.le_trans (dpt_hs (Tup.mk [p.1, p.2])) (show 3 ≤ 4 by decide), tupD_hs _, ⟨⟨by show 1 ≤ 2; decide, by show 2 ≤ 4; decide⟩, fun x hx => by
  rcases List.mem_cons.mp hx with rfl | hx
  · exact g.one
  · have : x = p.2 := by simpa using hx
    rw [this]
    exact g.two, g.n1⟩, (is_row ks).1, (is_row ks).2, h, rfl⟩
/-! ### the law's givens -/
structure Lw (n : Nat) (p : Lots) : Prop where
  g : GLots n p
  n1 : 1 ≤ n
  n3 : n ≤ 3
  l1 : p.1.items.length ≤ 6
  l2 : p.2.items.length ≤ 6
theorem Lw.few {n : Nat} {p : Lots} (h : Lw n p) : Few n p := ⟨by have := h.l1; have := h.l2; omega, by have := h.n3; omega⟩
theorem Lw.swap {n : Nat} {p : Lots} (h : Lw n p) : Lw n (p.2, p.1) := ⟨h.g.swap, h.n1, h.n3, h.l2, h.l1⟩
theorem Lw.mul {n : Nat} {p : Lots} (h : Lw n p) : p.1.items.length * p.2.items.length < 64 := Nat.lt_of_le_of_lt (Nat.mul_le_mul h.l1 h.l2) (by decide)
noncomputable def kindM (p : Lots) (xs : List Row) : List (Tup Int × Str) := xs.map fun s => (s, kind p s)
theorem kindM_keys (p : Lots) (xs : List Row) : (kindM p xs).map (·.1) = xs := by
  unfold kindM
  rw [List.map_map]
  exact List.map_id' xs
theorem kindM_look {p : Lots} {s : Row} : ∀ {xs : List Row}, s ∈ xs → dlook (kindM p xs) s = some (kind p s)
  | [], h => nomatch h
  | x :: xs, h => by
    unfold dlook kindM
    rw [List.map_cons, List.find?_cons]
    by_cases e : x = s
    · rw [e]
      simp
    · have h2 : s ∈ xs := by
        rcases List.mem_cons.mp h with h | h
        · exact absurd h.symm e
        · exact h
      have := kindM_look (p := p) h2
      unfold dlook kindM at this
      rw [show decide ((x, kind p x).1 = s) = false from decide_eq_false e]
      exact this
/-- D is the filled dict -/
def LkD (K : PySem.W.Frag) (F : Hp) (D : Addr) (m : List (Tup Int × Str)) : Prop := ∃ d kvs, V.ref D = .ref d ∧ F d = some (.dT kvs) ∧ KvsOf K F kvs m
theorem LkD.mono {K : PySem.W.Frag} {F F' : Hp} {D : Addr} {m : List (Tup Int × Str)} (s : Same F F') (h : LkD K F D m) : LkD K F' D m := by
  obtain ⟨d, kvs, e, h1, h2⟩ := h
  exact ⟨d, kvs, e, s _ _ h1, h2.mono s⟩
theorem LkD.rp {K : PySem.W.Frag} {F : Hp} {D : Addr} {m : List (Tup Int × Str)} (h : LkD K F D m) : RpD K F (.ref D) m := by
  obtain ⟨d, kvs, e, h1, h2⟩ := h
  exact ⟨d, kvs, e, .inl h1, h2⟩
theorem everyS_small {n : Nat} (h : n ≤ 3) : (everyS n).length ≤ 27 := by
  rw [everyS_len]
  have : 3 ^ n ≤ 3 ^ 3 := Nat.pow_le_pow_right (by decide) h
  omega
theorem dealL_small {n : Nat} {p : Lots} (h : n ≤ 3) : (dealL p n).length ≤ 27 := Nat.le_trans (List.length_filter_le _ _) (everyS_small h)
theorem barL_small {n : Nat} {p : Lots} (h : n ≤ 3) : (barL p n).length ≤ 27 := Nat.le_trans (List.length_filter_le _ _) (everyS_small h)
theorem sort_kind {n : Nat} {p : Lots} (h : n ≤ 3) (q : Row → Bool) : msR ((everyS n).filter q) = (everyS n).filter q := sort_asc ((everyS_asc h).filter q)
theorem evd_dispL {K : PySem.W.Frag} {F : Hp} {σ : L2.St} {tr : TA} {ds : List PyData} (h : EvA K F tr σ ds) (hz : ds.length ≤ sizeLine) : EvD K F (tLst tr) σ (.list ds) := fun c H a ok Q q =>
  h c H a ok _ fun vs H1 s1 r1 => ⟨by rw [DqAll.length r1]; exact hz, fun p np => q _ _ (s1.trans (same_new np)) (.lst (.inl (hid_new ((ok.mono s1).new np))) (dpAll_mono (same_new np).hid _ _ r1))⟩
theorem sort_rows {xs : List Row} (h : ∀ x ∈ xs, x.items ≠ []) : PySem.W.Sortable (xs.map (Datum.toD (α := Row))) := by
  refine .inl fun dd hdd => ?_
  obtain ⟨x, hx, rfl⟩ := List.mem_map.mp hdd
  cases e : x.items with
  | nil => exact absurd e (h x hx)
  | cons a r => exact ⟨_, _, by show PyData.tuple (x.items.map Datum.toD) = _; rw [e]; rfl⟩
theorem sup_ne {n : Nat} {s : Row} (hn : 1 ≤ n) (h : GSup n s) : s.items ≠ [] := fun e => by
  have := h.len
  rw [e] at this
  simp at this
  omega
theorem plan_ne {n : Nat} {s : Row} (hn : 1 ≤ n) (h : GPlan n s) : s.items ≠ [] := fun e => by
  have := h.len
  rw [e] at this
  simp at this
  omega
theorem ev_word {K : PySem.W.Frag} {F : Hp} {σ : L2.St} {te : TE} {p : Lots} {s : Row} (h : EvD K F te σ (dealD p s)) : Ev K F (tOp (rIx K) te (tC (.int 0))) σ (kind p s) := by
  obtain ⟨r, e⟩ := dealD_word p s
  rw [e] at h
  exact evd_ixT (k := 0) h ev_int rfl
theorem nth_bit {n k : Nat} {a : Row} (h : a.items.length = n) (hk : k < n) : nth a.items (k : Int) = bit a k := by
  rw [nth_nat (by omega)]
  unfold bit
  rw [List.getD_eq_getElem?_getD, List.getElem?_eq_getElem (by omega)]
  rfl
theorem in_rangeL {n k : Nat} (h : k < n) : (k : Int) ∈ rangeL 0 (n : Int) := by
  unfold rangeL
  exact List.mem_map.mpr ⟨k, List.mem_range.mpr (by omega), by omega⟩
theorem half_test {n : Nat} {p : Lots} {a b : Row} (h : Lw n p) (ha : a ∈ dealL p n) (hb : b ∈ dealL p n) : (decide ((((rangeL 0 (n : Int)).filter fun k => decide ((nth a.items k + nth b.items k).fmod 2 = 1)).map fun k => k) = []) && decide (kind p (halfV a b) = "prices")) = false := by
  obtain ⟨ga, _⟩ := (dealL_mem h.g).mp ha
  obtain ⟨gb, _⟩ := (dealL_mem h.g).mp hb
  by_cases e : (((rangeL 0 (n : Int)).filter fun k => decide ((nth a.items k + nth b.items k).fmod 2 = 1)).map fun k => k) = []
  · rw [show decide (kind p (halfV a b) = "prices") = false from decide_eq_false (half_kind h.g h.few ha hb fun k hk z => ?_), Bool.and_false]
    rw [List.map_id', List.filter_eq_nil_iff] at e
    refine e (k : Int) (in_rangeL hk) ?_
    rw [nth_bit ga.len hk, nth_bit gb.len hk]
    exact decide_eq_true z
  · rw [decide_eq_false e, Bool.false_and]
theorem et_lock {K : PySem.W.Frag} {F : Hp} {tin : Addr} {n : Nat} {te : TE} {i : Nat} {u : TS} {σ : L2.St} {P : PyData → Prop} (h : EvRB K F tin n (tSeq (tAsg (tLockE te) (gName i)) u) σ P) : EvRB K F tin n (tSeq (tLock (tAsg te (gName i))) u) σ P := h
theorem erb_notK {K : PySem.W.Frag} {F : Hp} {tin : Addr} {m : Nat} {σ : L2.St} {tt : TT} {s1 u : TS} {P : PyData → Prop} (h : EvT F tt σ false) (k : ∀ F', Same F F' → EvRB K F' tin m u σ P) : EvRB K F tin m (tSeq (tIfS tt s1 tNext) u) σ P := fun c H j a ok ct b D q =>
  h c H a ok _ fun H1 t1 => k (hid c H1) (a.trans t1.hid) c H1 j (Same.refl _) (ok.mono t1) ct (b.same t1) D fun v H2 d p s2 b2 r2 => q v H2 d p ((Sx.of t1).trans s2) b2 r2
theorem erb_setD {K : PySem.W.Frag} {F : Hp} {tin : Addr} {m : Nat} {σ : L2.St} {te : TE} {u : TS} {x : PyData} {i : Nat} {P : PyData → Prop} (h : EvD K F te σ x) (k : ∀ F' v, Same F F' → Dq K F' v x → EvRB K F' tin m u (σ.set i (some v)) P) : EvRB K F tin m (tSeq (tAsg te (gName i)) u) σ P := fun c H j a ok ct b D q =>
  h c H a ok _ fun v H1 s1 r1 => k (hid c H1) v (a.trans s1.hid) r1 c H1 j (Same.refl _) (ok.mono s1) ct (b.same s1) D fun w H2 e pe s2 b2 r2 => q w H2 e pe ((Sx.of s1).trans s2) b2 r2
theorem erb_two {α β : Type} [DecidableEq α] [Datum α] [DecidableEq β] [Datum β] {K : PySem.W.Frag} {F : Hp} {tin : Addr} {m : Nat} {σ : L2.St} {te : TE} {u : TS} {x : α × β} {i j : Nat} {P : PyData → Prop} (h : Ev K F te σ x) (k : ∀ F' v w, Same F F' → Rp K F' v x.1 → Rp K F' w x.2 → EvRB K F' tin m u ((σ.set i (some v)).set j (some w)) P) :
    EvRB K F tin m (tSeq (tAsg te (gTup K 2 (gCons (gName i) (gCons (gName j) gNil)))) u) σ P := fun c H z a ok ct b D q =>
  h c H a ok _ fun v H1 s1 r1 => by
    obtain ⟨σ2, eg, hk⟩ := lcb_two (i := i) (j := j) (σ := σ) (P := fun σ2 => EvRB K (hid c H1) tin m u σ2 P) r1 fun v1 v2 q1 q2 => k (hid c H1) v1 v2 (a.trans s1.hid) q1 q2
    exact eg c H1 (Same.refl _) (ok.mono s1) _ (hk c H1 z (Same.refl _) (ok.mono s1) ct (b.same s1) D fun w H2 e pe s2 b2 r2 => q w H2 e pe ((Sx.of s1).trans s2) b2 r2)
end Sp

set_option Elab.async false
set_option linter.all false
set_option maxRecDepth 100000
set_option maxHeartbeats 4000000
namespace Sp
open PySem PySem.Spec PyProof.Rows L2
open PySem.W (Datum DatumOrd Tup)

abbrev lawN : List Str := ((["script", "tin", "many_so", "lot_so", "other_so", "kinds_so", "supply_so", "barred_so", "dealt_so", "due", "got", "places_so", "near", "far", "bent_so", "all_so", "plan_so", "told", "one", "two"] : List Str) ++ (["half_so", "few_so", "lost_so", "worse_so", "own", "its", "a", "b", "k"] : List Str))
theorem sclaw : FnScope lawN ["script"] (defScope (top 66)) := ⟨rfl, rfl, rfl, by decide +kernel, rfl, by decide +kernel, by decide +kernel⟩
theorem lost_nil {xs ys : List Row} (h : ∀ s ∈ xs, s ∈ ys) : (((Tup.mk xs : Lot).items.filter fun x => decide (x ∉ ys)).map fun x => x) = [] := by
  rw [List.map_id', List.filter_eq_nil_iff]
  exact fun s hs e => of_decide_eq_true e (h s hs)
theorem worse_nil {n : Nat} {p q : Lots} (h : ∀ s ∈ everyS n, kind p s = "prices" → kind q s = "prices") : ((((kindM p (everyS n)).map (·.1)).filter fun own => decide (kind p own = "prices") && decide (kind q own ≠ "prices")).map fun x => x) = [] := by
  rw [List.map_id', List.filter_eq_nil_iff, kindM_keys]
  intro s hs e
  rw [Bool.and_eq_true] at e
  exact of_decide_eq_true e.2 (h s hs (of_decide_eq_true e.1))
section
variable {P : Program} {w : World} {K : PySem.W.Frag} {mg : Str → Option Value} {base : Heap}

theorem lw_l5 (B : Bn mg) (c__law_box : C8.Cal P w K mg base 1 "_law_box" (SpBox K) []) (c__law_cells : C8.Cal P w K mg base 1 "_law_cells" (SpCells K) []) (c__law_every : C8.Cal P w K mg base 2 "_law_every" (SpG K R_law_every) []) (c__law_lists : C8.Cal P w K mg base 6 "_law_lists" (SpG K (R_law_lists 4)) []) (c__law_lot : C8.Cal P w K mg base 4 "_law_lot" (SpD K 1000 R_lot) []) (c__law_of : C8.Cal P w K mg base 2 "_law_of" (SpD K 1 R_of) []) (c__law_pick : C8.Cal P w K mg base 2 "_law_pick" (SpD K 64 R_pick) []) (c__law_rows_to : C8.Cal P w K mg base 1 "_law_rows_to" (SpG K R_law_rows_to) []) (c__law_same : C8.Cal P w K mg base 8 "_law_same" (SpG K (R_law_same 6)) []) (c__law_set : C8.Cal P w K mg base 1 "_law_set" (SpG K R_law_set) []) (c__law_take : C8.Cal P w K mg base 1 "_law_take" (SpD K 1 R_take) []) (c_all_dealt : C8.Cal P w K mg base 10 "all_dealt" (SpG K R_all_dealt) []) (c_barred_supply : C8.Cal P w K mg base 9 "barred_supply" (SpG K R_barred_supply) []) (c_deal_paper : C8.Cal P w K mg base 9 "deal_paper" (SpG K R_deal_paper) []) (c_deals : C8.Cal P w K mg base 9 "deals" (SpG K R_deals) []) (c_sums : C8.Cal P w K mg base 9 "sums" (SpG K R_sums) []) (c_turned_houses : C8.Cal P w K mg base 8 "turned_houses" (SpG K R_turned_houses) []) {f : Addr} {cdv : Value} {A : Around} {outer : List Env} {s : Shared} {H : Hp} {E : XK} (hr : Room 10 (A.deeper (envOfC "law" (defScope (top 66)) s.heap.objs.size f cdv))) :
    ∃ t, PSs (cxOf CX0 P w K mg base lawN "law" (defScope (top 66)) f cdv A outer s H E).nox ((defBody (top 66)).drop 20) t ∧ ∀ {n : Nat} {p : Lots} {F : Hp} {tin D : Addr} {vm vl vo vde : V} {o0 o6 o7 o9 o10 o11 o12 o13 o14 o15 o16 o17 o18 o19 o20 o21 o22 o23 o24 o25 o26 o27 o28 : Option V} (h : Lw n p) (rm : Rp K F vm (n : Int)) (rl : Rp K F vl p.1) (ro : Rp K F vo p.2) (rk : LkD K F D (kindM p (everyS n))) (rde : Rp K F vde (dealL p n)), EvRB K F tin 100 t [o0, some (.ref tin), some vm, some vl, some vo, some (.ref D), o6, o7, some vde, o9, o10, o11, o12, o13, o14, o15, o16, o17, o18, o19, o20, o21, o22, o23, o24, o25, o26, o27, o28] (fun d => d = .bool true) := by
  refine ⟨_, (pss_cons (ps_asg (pe_tup (pa_cons (C8.pe_c c__law_of hr (by decide) (by rfl) (pa_cons (pv 1) (pa_cons (pv 8) pa_nil))) (pa_cons (C8.pe_c c__law_of hr (by decide) (by rfl) (pa_cons (pv 1) (pa_cons (pv 8) pa_nil))) pa_nil))) (pg_tup (n := 2) rfl (pgs_cons (pg_name (i := 18) sclaw.nd rfl (by first | exact Or.inl rfl | exact Or.inr rfl)) (pgs_cons (pg_name (i := 19) sclaw.nd rfl (by first | exact Or.inl rfl | exact Or.inr rfl)) pgs_nil)) : PG _ _ (gTup K 2 _)))
    (pss_cons (ps_set (i := 20) sclaw.nd rfl (by first | exact Or.inl rfl | exact Or.inr rfl) (pe_callTy (cr_tupleX : CallR _ _ (rTupleX K)) (by rfl) B.tuple PyProof.Rows.boot_tuple (pa_cons (pe_lc rfl sclaw.nd (pi_zipX (by rfl) B.zip (pa_cons (pv 18) (pa_cons (pv 19) pa_nil)) : PI _ _ _ (iZipX K _)) (blkOk_by (own := [("a", 26), ("b", 27)]) (by kernel_rfl)) (fun _ _ _ _ _ => (pg_tup (n := 2) rfl (pgs_cons (pg_name (i := 26) sclaw.nd rfl (by first | exact Or.inl rfl | exact Or.inr rfl)) (pgs_cons (pg_name (i := 27) sclaw.nd rfl (by first | exact Or.inl rfl | exact Or.inr rfl)) pgs_nil)) : PG _ _ (gTup K 2 _))) (fun _ _ _ _ _ => pts_nil) (fun _ _ _ _ _ => (pe_op op_fdivN (pe_op op_add (pv 26) (pv 27)) pe_int))) pa_nil)))
    (pss_cons (ps_if (PW.pt (pw_and (pt_cmpR (op_eqX hr.units : OpR _ _ (rEqX K)) (pe_lc rfl sclaw.nd (pi_range1 (by rfl) B.range (pa_cons (pv 2) pa_nil)) (blkOk_by (own := [("k", 28)]) (by kernel_rfl)) (fun _ _ _ _ _ => (pg_name (i := 28) sclaw.nd rfl (by first | exact Or.inl rfl | exact Or.inr rfl))) (fun _ _ _ _ _ => (pts_one (pt_cmpR (op_eqX hr.units : OpR _ _ (rEqX K)) (pe_op op_modN (pe_op op_add (pe_ix (ix_seq : IxR _ (rIx K)) (pv 18) (pv 28) (fun _ _ => rfl)) (pe_ix (ix_seq : IxR _ (rIx K)) (pv 19) (pv 28) (fun _ _ => rfl))) pe_int) pe_int (nomark _)))) (fun _ _ _ _ _ => (pv 28))) (pe_lst pa_nil) (nomark _)) (pw_and1 (pt_cmpR (op_eqX hr.units : OpR _ _ (rEqX K)) (pe_dget (Nat.lt_of_le_of_lt (Nat.add_le_add_left (by decide) _) hr.units) (pv 5) (pv 20) (fun _ _ => rfl)) pe_str (nomark _))))) (pss_one (ps_ret pe_bl)) pss_nil)
    (pss_cons (ps_set (i := 21) sclaw.nd rfl (by first | exact Or.inl rfl | exact Or.inr rfl) (pe_callTy (cr_tupleX : CallR _ _ (rTupleX K)) (by rfl) B.tuple PyProof.Rows.boot_tuple (pa_cons (pe_callB (cr_sortX hr.units : CallR _ _ (rSortX K)) (by rfl) B.sorted PyProof.Rows.boot_sorted (pa_cons (C8.pe_c c__law_pick hr (by decide) (by rfl) (pa_cons (pv 1) (pa_cons (pe_callTy (cr_listX : CallR _ _ (rListX K)) (by rfl) B.list PyProof.Rows.boot_list (pa_cons (pv 3) pa_nil)) (pa_cons (pe_op op_add pe_int (C8.pe_c c__law_take hr (by decide) (by rfl) (pa_cons (pv 1) (pa_cons (pe_callB (cr_lenX : CallR _ _ (rLenX K)) (by rfl) B.len PySem.boot_len (pa_cons (pv 3) pa_nil)) pa_nil)))) pa_nil)))) pa_nil)) pa_nil)))
    (pss_cons (ps_setLc (i := 22) rfl sclaw.nd rfl rfl (by rfl) (pi_seqX (C8.pe_c c_sums hr (by decide) (by rfl) (pa_cons (pv 21) (pa_cons (pv 4) pa_nil))) : PI _ _ _ (iSeqX K _)) (blkOk_by (own := [("own", 24)]) (by kernel_rfl)) (fun _ _ _ _ _ => (pg_name (i := 24) sclaw.nd rfl (by first | exact Or.inl rfl | exact Or.inr rfl))) (fun _ _ _ _ _ => (pts_one (pt_cmpR (op_notInX hr.units : OpR _ _ (rInX K true)) (pv 24) (pv 8) (by rfl)))) (fun _ _ _ _ _ => (pv 24)))
    (pss_cons (ps_lock (ps_setLc (i := 23) rfl sclaw.nd rfl rfl (by rfl) (pi_keys (pv 5) : PI _ _ _ (iKeys _)) (blkOk_by (own := [("own", 24)]) (by kernel_rfl)) (fun _ _ _ _ _ => (pg_name (i := 24) sclaw.nd rfl (by first | exact Or.inl rfl | exact Or.inr rfl))) (fun _ _ _ _ _ => (pts_one (PW.pt (pw_and (pt_cmpR (op_eqX hr.units : OpR _ _ (rEqX K)) (pe_dget (Nat.lt_of_le_of_lt (Nat.add_le_add_left (by decide) _) hr.units) (pv 5) (pv 24) (fun _ _ => rfl)) pe_str (nomark _)) (pw_and1 (pt_cmpR (op_neX hr.units : OpR _ _ (rNeX K)) (pe_ix (ix_seq : IxR _ (rIx K)) (C8.pe_c c_deal_paper hr (by decide) (by rfl) (pa_cons (pv 21) (pa_cons (pv 4) (pa_cons (pv 24) pa_nil)))) pe_int (fun _ _ => rfl)) pe_str (nomark _))))))) (fun _ _ _ _ _ => (pv 24))))
    (pss_one (ps_ret (C8.pe_c c__law_same hr (by decide) (by rfl) (pa_cons (pe_lst (pa_cons (pv 22) (pa_cons (pv 23) pa_nil))) (pa_cons (pe_lst (pa_cons (pe_lst pa_nil) (pa_cons (pe_lst pa_nil) pa_nil))) pa_nil))))))))))), ?_⟩
  intro n p F tin D vm vl vo vde o0 o6 o7 o9 o10 o11 o12 o13 o14 o15 o16 o17 o18 o19 o20 o21 o22 o23 o24 o25 o26 o27 o28 h rm rl ro rk rde
  have hn := h.n1
  have hn3 := h.n3
  have hde : (dealL p n).length ≤ 1000 := Nat.le_trans (dealL_small hn3) (by decide)
  refine (erb_asgT (K := K) (g := gName 0) (i := 18) (j := 19) (n1 := 1) (n2 := 1) (m := 70) (eb_call (i := 1) rfl (ea_cons (ev_var (i := 8) rfl rde) ea_nil) (of_ex (dealL_ne h.g) hde)) (fun F1 s1 => eb_call (i := 1) rfl (ea_cons (ev_var (i := 8) rfl (rde.mono s1)) ea_nil) (of_ex (dealL_ne h.g) hde)) fun F1 va vb d e s1 hd he ra0 rb0 => ?_).more (by decide)
  obtain ⟨a, ha, rfl⟩ := of_un (xs := dealL p n) hd
  obtain ⟨b, hb, rfl⟩ := of_un (xs := dealL p n) he
  have ra : Rp K F1 va a := ra0
  have rb : Rp K F1 vb b := rb0
  have ga := ((dealL_mem h.g).mp ha).1
  have gb := ((dealL_mem h.g).mp hb).1
  have gh := half_sup ga gb
  refine erb_set (i := 20) (Ev.cast (ev_tupL (ev_lc1 (ei_zip2 (ez_tup (ev_var (i := 18) rfl ra)) (ez_tup (ev_var (i := 19) rfl rb)) ?_) (fun F2 v2 x2 s2 hx2 r2 => lcb_two r2 fun u101 w101 ru101 rw101 => ⟨rfl, (ev_i (ev_i0 (ev_var (i := 26) rfl ru101) (ev_var (i := 27) rfl rw101)) ev_int ?_)⟩))) (show _ = halfV a b from rfl)) fun F2 v2 s2 r2 => ?_
  · rw [ga.len, gb.len]
    exact Nat.le_refl _
  · exact ⟨by decide, by decide⟩
  refine erb_notK (EvT.cast (et_and (et_test (ev_eq (ev_lc (ei_rng1 (ev_var (i := 2) rfl (rm.mono (s1.trans s2))) ?_ ?_) (fun F3 v3 x3 s3 hx3 r3 => lcb_name ⟨rfl, (et_test (ev_eq (ev_i (ev_i0 (ev_nthT (ev_var (i := 18) rfl (ra.mono (s2.trans s3))) (ev_var (i := 28) rfl r3) ?_) (ev_nthT (ev_var (i := 19) rfl (rb.mono (s2.trans s3))) (ev_var (i := 28) rfl r3) ?_)) ev_int ?_) ev_int)), fun hp3 => (ev_var (i := 28) rfl r3)⟩)) (ev_dL es_nil))) fun h102 => (et_test (ev_eq (ev_dget (i := 5) rfl (rk.mono (s1.trans s2)).rp (ev_var (i := 20) rfl r2) ?_) ev_str))) (half_test h ha hb)) fun F3 s3 => ?_
  · omega
  · omega
  · have := mem_rangeL hx3
    rw [ga.len]
    exact ⟨by omega, by omega⟩
  · have := mem_rangeL hx3
    rw [gb.len]
    exact ⟨by omega, by omega⟩
  · decide
  · exact kindM_look (everyS_iff.mpr gh)
  have hl1 := h.l1
  have hne := List.length_pos_iff.mpr h.g.one.ne
  refine erb_setB (K := K) (i := 21) (n := 65) (m := 5) (Pv := fun d => ∃ ys : List Row, d = Datum.toD (Tup.mk (msR ys)) ∧ ys.Nodup ∧ ys ≠ [] ∧ (∀ y ∈ ys, y ∈ p.1.items) ∧ ys.length ≤ 6) (eb_lift (fun te => tCB (rTupleX K) (tCons (tCB (rSortX K) (tCons te tNil)) tNil)) (fun te H Q => rfl) (eb_callR (n := 64) (n1 := 1) (i := 1) (Pb := fun d => ∃ j : Int, d = .int j ∧ 1 ≤ j ∧ j ≤ (p.1.items.length : Int)) rfl (ev_listT (ev_var (i := 3) rfl (rl.mono (s1.trans (s2.trans s3))))) (EvB.imp (eb_i0r (Pv := fun j => 0 ≤ j ∧ j < (p.1.items.length : Int)) ev_int (EvB.imp (eb_call (i := 1) rfl (ea_cons (ev_lenT (ev_var (i := 3) rfl (rl.mono (s1.trans (s2.trans s3))))) ea_nil) (take_ex ?_)) fun d hd => ?_)) fun d hd => ?_) fun d hd => ?_) fun F0 v d s0 hd r => ?_) fun F4 vf d s4 hd rf0 => ?_
  · omega
  · obtain ⟨b, i, e, hb, h0, h1, rfl⟩ := hd
    injection e with e _
    have e : (p.1.items.length : Int) = b := by injection e
    exact ⟨i, rfl, h0, by omega⟩
  · obtain ⟨j, ⟨h0, h1⟩, rfl⟩ := hd
    exact ⟨1 + j, rfl, by omega, by omega⟩
  · obtain ⟨j, rfl, h0, h1⟩ := hd
    exact pick_ex (by omega) (by omega)
  · obtain ⟨_, ⟨j, rfl, h0, h1⟩, hd⟩ := hd
    obtain ⟨ys, zs, rfl, pm, hyl⟩ := pick_typed (xs := p.1.items) (m := j) hd
    have hs : ∀ y ∈ ys, y ∈ p.1.items := fun y hy => pm.mem_iff.mp (List.mem_append_left _ hy)
    have hnd : ys.Nodup := (List.nodup_append.mp (pm.nodup_iff.mpr (lot_nodup h.g.one.asc))).1
    exact ⟨_, ⟨ys, rfl, hnd, List.length_pos_iff.mp (by omega), hs, by omega⟩, ev_tupL (ev_sort (ev_val (show Rp K F0 v ys from r)) (sort_rows fun x hx => plan_ne hn (h.g.one.plans x (hs x hx))))⟩
  obtain ⟨ys, rfl, hnd, hyne, hys, hyl⟩ := hd
  have gl := few_glot h.g.one hnd hyne hys (by omega)
  have hs : ∀ y ∈ (Tup.mk (msR ys) : Lot).items, y ∈ p.1.items := fun y hy => hys y ((List.mergeSort_perm _ _).mem_iff.mp hy)
  have hml : (Tup.mk (msR ys) : Lot).items.length ≤ 6 := by
    show (msR ys).length ≤ 6
    rw [show (msR ys).length = ys.length from (List.mergeSort_perm _ _).length_eq]
    exact hyl
  generalize (Tup.mk (msR ys) : Lot) = lf at *
  have rf : Rp K F4 vf lf := rf0
  have hf : Lw n (lf, p.2) := ⟨⟨gl, h.g.two, h.g.n1⟩, h.n1, h.n3, hml, h.l2⟩
  have gp : GLots n (p.1, p.2) := h.g
  refine erb_set (i := 22) (Ev.cast (ev_lc (ei_tup (ev_call (ea_cons (ev_var (i := 21) rfl rf) (ea_cons (ev_var (i := 4) rfl (ro.mono (s1.trans (s2.trans (s3.trans s4))))) ea_nil)) (k_sums (p := (lf, p.2)) hf.g hf.mul))) (fun F5 v5 x5 s5 hx5 r5 => lcb_name ⟨rfl, (et_test (ev_ninL (ev_var (i := 24) rfl r5) (ev_var (i := 8) rfl (rde.mono (s1.trans (s2.trans (s3.trans (s4.trans s5)))))))), fun hp5 => (ev_var (i := 24) rfl r5)⟩)) (lost_nil (few_lost gp hn3 hs hf.g))) fun F5 v5 s5 r5 => ?_
  refine et_lock (erb_set (K := K) (i := 23) (Ev.cast (ev_lcD' (i := 5) (v := .ref D) (p := fun own => decide (kind p own = "prices") && decide (kind (lf, p.2) own ≠ "prices")) (f := fun x => x) rfl (rk.mono (s1.trans (s2.trans (s3.trans (s4.trans s5))))) (by unfold kindM; rw [List.length_map]; have := everyS_small hn3; omega) fun Fl ds rd F0 v0 x sx hx r => ?_) (worse_nil fun s hs0 hk => few_kind gp hf.g h.few hf.few (everyS_iff.mp hs0) hs hk)) fun F6 v6 s6 r6 => ?_)
  · rw [kindM_keys] at hx
    exact lcb_name ⟨rfl, et_and (et_test (ev_eq (ev_dget (i := 5) rfl (rd.mono sx) (ev_var (i := 24) rfl r) (kindM_look hx)) ev_str)) (fun _ => et_test (ev_ne (ev_word (p := (lf, p.2)) (evd_call (ea_cons (ev_var (i := 21) rfl ((Rp.ds ds (rf.mono s5)).mono sx)) (ea_cons (ev_var (i := 4) rfl ((Rp.ds ds (ro.mono (s1.trans (s2.trans (s3.trans (s4.trans s5)))))).mono sx)) (ea_cons (ev_var (i := 24) rfl r) ea_nil))) (k_paper (p := (lf, p.2)) hf.g hf.few (everyS_iff.mp hx)))) ev_str)), fun _ => ev_var (i := 24) rfl r⟩
  refine erb_pure (er_ret (evd_call (ea_consD (evd_dispL (ea_cons (ev_var (i := 22) rfl (r5.mono s6)) (ea_cons (ev_var (i := 23) rfl r6) ea_nil)) (by show 2 ≤ sizeLine; decide)) (ea_consD (evd_dispL (ea_cons (ev_dL (α := Row) es_nil) (ea_cons (ev_dL (α := Row) es_nil) ea_nil)) (by show 2 ≤ sizeLine; decide)) ea_nil)) (k_same (dptL fun d hd => ?_)))) rfl
  simp only [List.mem_cons, List.not_mem_nil, or_false] at hd
  rcases hd with rfl | rfl <;> exact Nat.le_trans (dpt_rows []) (by decide)

end
end Sp

set_option Elab.async false
set_option linter.all false
set_option maxRecDepth 100000
set_option maxHeartbeats 4000000
namespace Sp
open PySem PySem.Spec PyProof.Rows L2
open PySem.W (Datum DatumOrd Tup)

theorem k_allT {n : Nat} {p : Lots} (g : GLots n p) (f : Few n p) (e : barV p n = none) : R_all_dealt [Datum.toD p.1, Datum.toD p.2] (Datum.toD true) := by
  have h := k_all g f
  rw [e] at h
  exact h
theorem told_iff {n : Nat} {p : Lots} : ("mixes" : Str) ∈ (everyS n).map (kind p) ↔ (barV p n).isNone = false := by
  rw [barV_head]
  constructor
  · intro h
    obtain ⟨s, hs, e⟩ := List.mem_map.mp h
    have hm : s ∈ barL p n := List.mem_filter.mpr ⟨hs, decide_eq_true e⟩
    cases e2 : barL p n with
    | nil => rw [e2] at hm; cases hm
    | cons a r => rfl
  · intro h
    cases e2 : barL p n with
    | nil => rw [e2] at h; cases h
    | cons a r =>
      have hm : a ∈ barL p n := by rw [e2]; exact List.mem_cons_self
      obtain ⟨h1, h2⟩ := List.mem_filter.mp hm
      exact List.mem_map.mpr ⟨a, h1, of_decide_eq_true h2⟩
theorem told_test {n : Nat} {p : Lots} : (decide (("mixes" : Str) ∈ (everyS n).map (kind p)) && (barV p n).isNone) = false := by
  cases e : (barV p n).isNone with
  | false => rw [Bool.and_false]
  | true =>
    rw [Bool.and_true]
    refine decide_eq_false fun h => ?_
    rw [told_iff.mp h] at e
    cases e
theorem told_eq {n : Nat} {p : Lots} : decide (("mixes" : Str) ∉ (everyS n).map (kind p)) = (barV p n).isNone := by
  cases e : (barV p n).isNone with
  | false => exact decide_eq_false fun h => h (told_iff.mpr e)
  | true =>
    refine decide_eq_true fun h => ?_
    rw [told_iff.mp h] at e
    cases e
theorem told_cast {n : Nat} {p q : Lots} (h : n ≤ 3) {f : Row → Str} (e : ∀ s, f s = kind q s) : (((kindM p (everyS n)).map (·.1)).mergeSort fun a b => !DatumOrd.lt b a).map f = (everyS n).map (kind q) := by
  rw [kindM_keys, show f = kind q from funext e]
  exact congrArg _ (sort_asc (everyS_asc h))
section
variable {P : Program} {w : World} {K : PySem.W.Frag} {mg : Str → Option Value} {base : Heap}

theorem lw_l4 (B : Bn mg) (c__law_box : C8.Cal P w K mg base 1 "_law_box" (SpBox K) []) (c__law_cells : C8.Cal P w K mg base 1 "_law_cells" (SpCells K) []) (c__law_every : C8.Cal P w K mg base 2 "_law_every" (SpG K R_law_every) []) (c__law_lists : C8.Cal P w K mg base 6 "_law_lists" (SpG K (R_law_lists 4)) []) (c__law_lot : C8.Cal P w K mg base 4 "_law_lot" (SpD K 1000 R_lot) []) (c__law_of : C8.Cal P w K mg base 2 "_law_of" (SpD K 1 R_of) []) (c__law_pick : C8.Cal P w K mg base 2 "_law_pick" (SpD K 64 R_pick) []) (c__law_rows_to : C8.Cal P w K mg base 1 "_law_rows_to" (SpG K R_law_rows_to) []) (c__law_same : C8.Cal P w K mg base 8 "_law_same" (SpG K (R_law_same 6)) []) (c__law_set : C8.Cal P w K mg base 1 "_law_set" (SpG K R_law_set) []) (c__law_take : C8.Cal P w K mg base 1 "_law_take" (SpD K 1 R_take) []) (c_all_dealt : C8.Cal P w K mg base 10 "all_dealt" (SpG K R_all_dealt) []) (c_barred_supply : C8.Cal P w K mg base 9 "barred_supply" (SpG K R_barred_supply) []) (c_deal_paper : C8.Cal P w K mg base 9 "deal_paper" (SpG K R_deal_paper) []) (c_deals : C8.Cal P w K mg base 9 "deals" (SpG K R_deals) []) (c_sums : C8.Cal P w K mg base 9 "sums" (SpG K R_sums) []) (c_turned_houses : C8.Cal P w K mg base 8 "turned_houses" (SpG K R_turned_houses) []) {f : Addr} {cdv : Value} {A : Around} {outer : List Env} {s : Shared} {H : Hp} {E : XK} (hr : Room 10 (A.deeper (envOfC "law" (defScope (top 66)) s.heap.objs.size f cdv))) :
    ∃ t, PSs (cxOf CX0 P w K mg base lawN "law" (defScope (top 66)) f cdv A outer s H E).nox ((defBody (top 66)).drop 14) t ∧ ∀ {n : Nat} {p : Lots} {F : Hp} {tin D : Addr} {vm vl vo vde : V} {o0 o6 o7 o9 o10 o11 o12 o13 o14 o15 o16 o17 o18 o19 o20 o21 o22 o23 o24 o25 o26 o27 o28 : Option V} (h : Lw n p) (rm : Rp K F vm (n : Int)) (rl : Rp K F vl p.1) (ro : Rp K F vo p.2) (rk : LkD K F D (kindM p (everyS n))) (rde : Rp K F vde (dealL p n)), EvRB K F tin 110 t [o0, some (.ref tin), some vm, some vl, some vo, some (.ref D), o6, o7, some vde, o9, o10, o11, o12, o13, o14, o15, o16, o17, o18, o19, o20, o21, o22, o23, o24, o25, o26, o27, o28] (fun d => d = .bool true) := by
  obtain ⟨t, ht, hq⟩ := lw_l5 B c__law_box c__law_cells c__law_every c__law_lists c__law_lot c__law_of c__law_pick c__law_rows_to c__law_same c__law_set c__law_take c_all_dealt c_barred_supply c_deal_paper c_deals c_sums c_turned_houses hr
  refine ⟨_, (pss_cons (ps_set (i := 15) sclaw.nd rfl (by first | exact Or.inl rfl | exact Or.inr rfl) (pe_callTy (cr_tupleX : CallR _ _ (rTupleX K)) (by rfl) B.tuple PyProof.Rows.boot_tuple (pa_cons (C8.pe_c c__law_every hr (by decide) (by rfl) (pa_cons (pv 2) pa_nil)) pa_nil)))
    (pss_cons (ps_set (i := 16) sclaw.nd rfl (by first | exact Or.inl rfl | exact Or.inr rfl) (C8.pe_c c__law_of hr (by decide) (by rfl) (pa_cons (pv 1) (pa_cons (pv 15) pa_nil))))
    (pss_cons (ps_if (pt_not (pt_val (C8.pe_c c__law_same hr (by decide) (by rfl) (pa_cons (pe_lst (pa_cons (C8.pe_c c_all_dealt hr (by decide) (by rfl) (pa_cons (pv 3) (pa_cons (pe_tup (pa_cons (pv 16) pa_nil)) pa_nil))) (pa_cons (C8.pe_c c_all_dealt hr (by decide) (by rfl) (pa_cons (pe_tup (pa_cons (pv 16) pa_nil)) (pa_cons (pv 3) pa_nil))) (pa_cons (C8.pe_c c_all_dealt hr (by decide) (by rfl) (pa_cons (pv 15) (pa_cons (pv 15) pa_nil))) pa_nil)))) (pa_cons (pe_lst (pa_cons pe_bl (pa_cons pe_bl (pa_cons pe_bl pa_nil)))) pa_nil))))) (pss_one (ps_ret pe_bl)) pss_nil)
    (pss_cons (ps_setLc (i := 17) rfl sclaw.nd rfl rfl (by rfl) (pi_seqX (pe_callB (cr_sortDT rfl hr.units : CallR _ _ rSortDT) (by rfl) B.sorted PyProof.Rows.boot_sorted (pa_cons (pv 5) pa_nil)) : PI _ _ _ (iSeqX K _)) (blkOk_by (own := [("own", 24)]) (by kernel_rfl)) (fun _ _ _ _ _ => (pg_name (i := 24) sclaw.nd rfl (by first | exact Or.inl rfl | exact Or.inr rfl))) (fun _ _ _ _ _ => pts_nil) (fun _ _ _ _ _ => (pe_ix (ix_seq : IxR _ (rIx K)) (C8.pe_c c_deal_paper hr (by decide) (by rfl) (pa_cons (pv 3) (pa_cons (pv 15) (pa_cons (pv 24) pa_nil)))) pe_int (fun _ _ => rfl))))
    (pss_cons (ps_if (PW.pt (pw_and (pt_cmpR (op_inX hr.units : OpR _ _ (rInX K false)) pe_str (pv 17) (by rfl)) (pw_and1 (pt_val (C8.pe_c c_all_dealt hr (by decide) (by rfl) (pa_cons (pv 3) (pa_cons (pv 15) pa_nil))))))) (pss_one (ps_ret pe_bl)) pss_nil)
    (pss_cons (ps_if (pt_not (pt_val (C8.pe_c c__law_same hr (by decide) (by rfl) (pa_cons (C8.pe_c c_all_dealt hr (by decide) (by rfl) (pa_cons (pv 3) (pa_cons (pv 15) pa_nil))) (pa_cons (pe_cmpR (op_notInX hr.units : OpR _ _ (rInX K true)) pe_str (pv 17) (by rfl)) pa_nil))))) (pss_one (ps_ret pe_bl)) pss_nil)
    ht)))))), ?_⟩
  intro n p F tin D vm vl vo vde o0 o6 o7 o9 o10 o11 o12 o13 o14 o15 o16 o17 o18 o19 o20 o21 o22 o23 o24 o25 o26 o27 o28 h rm rl ro rk rde
  have hn := h.n1
  have hn3 := h.n3
  have hev := every_le (m := n) (by omega)
  have hag := all_glot ⟨hn, hn3⟩
  have hel : (everyV (n : Int)).length ≤ 8 := by
    rw [every_len (by omega)]
    exact Nat.pow_le_pow_right (n := 2) (by decide) hn3
  refine erb_set (i := 15) (ev_tupL (ev_call (ea_cons (ev_var (i := 2) rfl rm) ea_nil) (r1_mk ?_))) fun F1 v1 s1 r1 => ?_
  · exact ⟨by omega, by omega⟩
  refine erb_setB (K := K) (i := 16) (n := 1) (m := 109) (eb_call (i := 1) rfl (ea_cons (ev_var (i := 15) rfl r1) ea_nil) (of_exT hev.2 (by omega))) fun F2 vp d s2 hd rp0 => ?_
  obtain ⟨q, hq0, rfl⟩ := of_unT (xs := everyV (n : Int)) hd
  have rp : Rp K F2 vp q := rp0
  have gq := every_plan (m := n) (by omega) hq0
  have hf1 : Few n (p.1, (Tup.mk [q] : Lot)) := ⟨by have := h.l1; show p.1.items.length + 1 ≤ 24; omega, by omega⟩
  have hf2 : Few n ((Tup.mk [q] : Lot), p.1) := ⟨by have := h.l1; show 1 + p.1.items.length ≤ 24; omega, by omega⟩
  have hf3 : Few n ((Tup.mk (everyV (n : Int)) : Lot), (Tup.mk (everyV (n : Int)) : Lot)) := ⟨by show (everyV (n : Int)).length + (everyV (n : Int)).length ≤ 24; omega, by omega⟩
  have hf4 : Few n (p.1, (Tup.mk (everyV (n : Int)) : Lot)) := ⟨by have := h.l1; show p.1.items.length + (everyV (n : Int)).length ≤ 24; omega, by omega⟩
  have hg4 : GLots n (p.1, (Tup.mk (everyV (n : Int)) : Lot)) := ⟨h.g.one, hag, h.g.n1⟩
  refine erb_notK (EvT.cast (et_not (et_val (ev_call (ea_consD (evd_dispL (ea_cons (ev_call (ea_cons (ev_var (i := 3) rfl (rl.mono (s1.trans s2))) (ea_cons (ev_dT (es_cons (ev_var (i := 16) rfl rp) es_nil)) ea_nil)) (k_allT (p := (p.1, Tup.mk [q])) ⟨h.g.one, one_glot gq, h.g.n1⟩ hf1 (bar_one h.g.one gq ⟨hn, hn3⟩ h.l1))) (ea_cons (ev_call (ea_cons (ev_dT (es_cons (ev_var (i := 16) rfl rp) es_nil)) (ea_cons (ev_var (i := 3) rfl (rl.mono (s1.trans s2))) ea_nil)) (k_allT (p := (Tup.mk [q], p.1)) ⟨one_glot gq, h.g.one, h.g.n1⟩ hf2 (bar_one' h.g.one gq ⟨hn, hn3⟩ h.l1))) (ea_cons (ev_call (ea_cons (ev_var (i := 15) rfl (r1.mono s2)) (ea_cons (ev_var (i := 15) rfl (r1.mono s2)) ea_nil)) (k_allT (p := (Tup.mk (everyV (n : Int)), Tup.mk (everyV (n : Int)))) ⟨hag, hag, h.g.n1⟩ hf3 (bar_all ⟨hn, hn3⟩))) ea_nil))) (by show 3 ≤ sizeLine; decide)) (ea_consD (evd_dispL (ea_cons ev_bool (ea_cons ev_bool (ea_cons ev_bool ea_nil))) (by show 3 ≤ sizeLine; decide)) ea_nil)) (k_same (dptL fun d hd => ?_))))) rfl) fun F3 s3 => ?_
  · simp only [List.mem_cons, List.not_mem_nil, or_false] at hd
    rcases hd with rfl | rfl | rfl <;> exact dpt_bool _
  refine erb_set (K := K) (i := 17) (Ev.cast (ev_lc1 (f := fun s => kind (p.1, Tup.mk (everyV (n : Int))) s) (ei_list (ev_sortD (i := 5) rfl (rk.mono (s1.trans (s2.trans s3))).rp fun k hk => ?_)) fun F0 v0 x0 s0 hx0 r0 => lcb_name ⟨rfl, ev_word (p := (p.1, Tup.mk (everyV (n : Int)))) (evd_call (ea_cons (ev_var (i := 3) rfl ((rl.mono (s1.trans (s2.trans s3))).mono s0)) (ea_cons (ev_var (i := 15) rfl ((r1.mono (s2.trans s3)).mono s0)) (ea_cons (ev_var (i := 24) rfl r0) ea_nil))) (k_paper (p := (p.1, Tup.mk (everyV (n : Int)))) hg4 hf4 ?_))⟩) (told_cast (q := (p.1, Tup.mk (everyV (n : Int)))) hn3 fun s => rfl)) fun F4 v4 s4 r4 => ?_
  · rw [kindM_keys] at hk
    exact sup_ne hn (everyS_iff.mp hk)
  · have hx1 := (List.mergeSort_perm _ _).mem_iff.mp hx0
    rw [kindM_keys] at hx1
    exact everyS_iff.mp hx1
  refine erb_notK (EvT.cast (et_and (et_test (ev_inL ev_str (ev_var (i := 17) rfl r4))) fun h101 => (et_val (ev_call (ea_cons (ev_var (i := 3) rfl (rl.mono (s1.trans (s2.trans (s3.trans s4))))) (ea_cons (ev_var (i := 15) rfl (r1.mono (s2.trans (s3.trans s4)))) ea_nil)) (k_all (p := (p.1, Tup.mk (everyV (n : Int)))) hg4 hf4)))) told_test) fun F5 s5 => ?_
  refine erb_notK (EvT.cast (et_not (et_val (ev_call (ea_cons (ev_call (ea_cons (ev_var (i := 3) rfl (rl.mono (s1.trans (s2.trans (s3.trans (s4.trans s5)))))) (ea_cons (ev_var (i := 15) rfl (r1.mono (s2.trans (s3.trans (s4.trans s5))))) ea_nil)) (k_all (p := (p.1, Tup.mk (everyV (n : Int)))) hg4 hf4)) (ea_cons (Ev.cast (ev_ninL ev_str (ev_var (i := 17) rfl (r4.mono s5))) told_eq) ea_nil)) (k_same (Nat.zero_le _))))) rfl) fun F6 s6 => ?_
  exact (hq h (rm.mono (s1.trans (s2.trans (s3.trans (s4.trans (s5.trans s6)))))) (rl.mono (s1.trans (s2.trans (s3.trans (s4.trans (s5.trans s6)))))) (ro.mono (s1.trans (s2.trans (s3.trans (s4.trans (s5.trans s6)))))) (rk.mono (s1.trans (s2.trans (s3.trans (s4.trans (s5.trans s6)))))) (rde.mono (s1.trans (s2.trans (s3.trans (s4.trans (s5.trans s6))))))).more (by decide)

end
end Sp

set_option Elab.async false
set_option linter.all false
set_option maxRecDepth 100000
set_option maxHeartbeats 4000000
namespace Sp
open PySem PySem.Spec PyProof.Rows L2
open PySem.W (Datum DatumOrd Tup)

theorem evd_cast {K : PySem.W.Frag} {F : Hp} {σ : L2.St} {te : TE} {x y : PyData} (h : EvD K F te σ x) (e : x = y) : EvD K F te σ y := e ▸ h
theorem isN_opt : ∀ o : Option Row, (optR o).isNoneType = o.isNone
  | none => rfl
  | some x => rfl
theorem due_eq : ∀ L : List Row, (if decide (L ≠ []) = true then Datum.toD (nth L 0) else Datum.toD ()) = optR L.head?
  | [] => rfl
  | x :: L => rfl
theorem none_bent {n : Nat} {p : Lots} (h : Lw n p) (ks : List Int) : (barV (turnP p ks) n).isNone = (barV p n).isNone := by
  rw [barV_head, barV_head, ← barL_bent h.g h.few h.n3 ks]
  cases e : barL p n with
  | nil =>
    have e2 : msR [] = [] := List.mergeSort_nil
    rw [List.map_nil, e2]
  | cons a r =>
    cases e2 : msR ((a :: r).map fun s => bendV s ks) with
    | nil =>
      have := congrArg List.length e2
      rw [show (msR ((a :: r).map fun s => bendV s ks)).length = ((a :: r).map fun s => bendV s ks).length from (List.mergeSort_perm _ _).length_eq] at this
      simp at this
    | cons b t => rfl
theorem places_ok {n : Nat} {ks : List Int} (h : ∀ k ∈ ks, 0 ≤ k ∧ k < (n : Int)) (hl : ks.length ≤ 40) : GPlaces n (Tup.mk (isetV ks)) := ⟨asc_iset ks, fun k hk => h k (mem_iset.mp hk), by
  have := iset_len ks
  show (isetV ks).length ≤ 1000
  omega⟩
section
variable {P : Program} {w : World} {K : PySem.W.Frag} {mg : Str → Option Value} {base : Heap}

theorem lw_l3 (B : Bn mg) (c__law_box : C8.Cal P w K mg base 1 "_law_box" (SpBox K) []) (c__law_cells : C8.Cal P w K mg base 1 "_law_cells" (SpCells K) []) (c__law_every : C8.Cal P w K mg base 2 "_law_every" (SpG K R_law_every) []) (c__law_lists : C8.Cal P w K mg base 6 "_law_lists" (SpG K (R_law_lists 4)) []) (c__law_lot : C8.Cal P w K mg base 4 "_law_lot" (SpD K 1000 R_lot) []) (c__law_of : C8.Cal P w K mg base 2 "_law_of" (SpD K 1 R_of) []) (c__law_pick : C8.Cal P w K mg base 2 "_law_pick" (SpD K 64 R_pick) []) (c__law_rows_to : C8.Cal P w K mg base 1 "_law_rows_to" (SpG K R_law_rows_to) []) (c__law_same : C8.Cal P w K mg base 8 "_law_same" (SpG K (R_law_same 6)) []) (c__law_set : C8.Cal P w K mg base 1 "_law_set" (SpG K R_law_set) []) (c__law_take : C8.Cal P w K mg base 1 "_law_take" (SpD K 1 R_take) []) (c_all_dealt : C8.Cal P w K mg base 10 "all_dealt" (SpG K R_all_dealt) []) (c_barred_supply : C8.Cal P w K mg base 9 "barred_supply" (SpG K R_barred_supply) []) (c_deal_paper : C8.Cal P w K mg base 9 "deal_paper" (SpG K R_deal_paper) []) (c_deals : C8.Cal P w K mg base 9 "deals" (SpG K R_deals) []) (c_sums : C8.Cal P w K mg base 9 "sums" (SpG K R_sums) []) (c_turned_houses : C8.Cal P w K mg base 8 "turned_houses" (SpG K R_turned_houses) []) {f : Addr} {cdv : Value} {A : Around} {outer : List Env} {s : Shared} {H : Hp} {E : XK} (hr : Room 10 (A.deeper (envOfC "law" (defScope (top 66)) s.heap.objs.size f cdv))) :
    ∃ t, PSs (cxOf CX0 P w K mg base lawN "law" (defScope (top 66)) f cdv A outer s H E).nox ((defBody (top 66)).drop 10) t ∧ ∀ {n : Nat} {p : Lots} {F : Hp} {tin D : Addr} {vm vl vo vba vde vdu : V} {o0 o6 o10 o11 o12 o13 o14 o15 o16 o17 o18 o19 o20 o21 o22 o23 o24 o25 o26 o27 o28 : Option V} (h : Lw n p) (rm : Rp K F vm (n : Int)) (rl : Rp K F vl p.1) (ro : Rp K F vo p.2) (rk : LkD K F D (kindM p (everyS n))) (rba : Rp K F vba (barL p n)) (rde : Rp K F vde (dealL p n)) (rdu : Dq K F vdu (optR (barV p n))), EvRB K F tin 175 t [o0, some (.ref tin), some vm, some vl, some vo, some (.ref D), o6, some vba, some vde, some vdu, o10, o11, o12, o13, o14, o15, o16, o17, o18, o19, o20, o21, o22, o23, o24, o25, o26, o27, o28] (fun d => d = .bool true) := by
  obtain ⟨t, ht, hq⟩ := lw_l4 B c__law_box c__law_cells c__law_every c__law_lists c__law_lot c__law_of c__law_pick c__law_rows_to c__law_same c__law_set c__law_take c_all_dealt c_barred_supply c_deal_paper c_deals c_sums c_turned_houses hr
  refine ⟨_, (pss_cons (ps_set (i := 11) sclaw.nd rfl (by first | exact Or.inl rfl | exact Or.inr rfl) (C8.pe_c c__law_set hr (by decide) (by rfl) (pa_cons (C8.pe_c c__law_pick hr (by decide) (by rfl) (pa_cons (pv 1) (pa_cons (pe_listRg rfl (by rfl) B.list (prg_1 (by rfl) B.range (pv 2))) (pa_cons (C8.pe_c c__law_take hr (by decide) (by rfl) (pa_cons (pv 1) (pa_cons (pe_op op_add (pv 2) pe_int) pa_nil))) pa_nil)))) pa_nil)))
    (pss_cons (ps_asg (C8.pe_c c_turned_houses hr (by decide) (by rfl) (pa_cons (pe_tup (pa_cons (pv 3) (pa_cons (pv 4) pa_nil))) (pa_cons (pv 11) pa_nil))) (pg_tup (n := 2) rfl (pgs_cons (pg_name (i := 12) sclaw.nd rfl (by first | exact Or.inl rfl | exact Or.inr rfl)) (pgs_cons (pg_name (i := 13) sclaw.nd rfl (by first | exact Or.inl rfl | exact Or.inr rfl)) pgs_nil)) : PG _ _ (gTup K 2 _)))
    (pss_cons (ps_set (i := 14) sclaw.nd rfl (by first | exact Or.inl rfl | exact Or.inr rfl) (pe_callB (cr_sortX hr.units : CallR _ _ (rSortX K)) (by rfl) B.sorted PyProof.Rows.boot_sorted (pa_cons (pe_lc rfl sclaw.nd (pi_seqX (pv 7) : PI _ _ _ (iSeqX K _)) (blkOk_by (own := [("its", 25)]) (by kernel_rfl)) (fun _ _ _ _ _ => (pg_name (i := 25) sclaw.nd rfl (by first | exact Or.inl rfl | exact Or.inr rfl))) (fun _ _ _ _ _ => pts_nil) (fun _ _ _ _ _ => (pe_callTy (cr_tupleX : CallR _ _ (rTupleX K)) (by rfl) B.tuple PyProof.Rows.boot_tuple (pa_cons (pe_lc rfl sclaw.nd (pi_enumX (by rfl) B.enumerate (pa_cons (pv 25) pa_nil) : PI _ _ _ (iEnumX K _)) (blkOk_by (own := [("k", 28), ("own", 24)]) (by kernel_rfl)) (fun _ _ _ _ _ => (pg_tup (n := 2) rfl (pgs_cons (pg_name (i := 28) sclaw.nd rfl (by first | exact Or.inl rfl | exact Or.inr rfl)) (pgs_cons (pg_name (i := 24) sclaw.nd rfl (by first | exact Or.inl rfl | exact Or.inr rfl)) pgs_nil)) : PG _ _ (gTup K 2 _))) (fun _ _ _ _ _ => pts_nil) (fun _ _ _ _ _ => (pe_ifExp (pt_cmpR (op_inX hr.units : OpR _ _ (rInX K false)) (pv 28) (pv 11) (by rfl)) (pe_op op_sub pe_int (pv 24)) (pv 24)))) pa_nil)))) pa_nil)))
    (pss_cons (ps_if (pt_not (pt_val (C8.pe_c c__law_same hr (by decide) (by rfl) (pa_cons (pe_lst (pa_cons (C8.pe_c c_barred_supply hr (by decide) (by rfl) (pa_cons (pv 12) (pa_cons (pv 13) pa_nil))) (pa_cons (C8.pe_c c_all_dealt hr (by decide) (by rfl) (pa_cons (pv 12) (pa_cons (pv 13) pa_nil))) pa_nil))) (pa_cons (pe_lst (pa_cons (pe_ifExp (pt_cmpR (op_neX hr.units : OpR _ _ (rNeX K)) (pv 14) (pe_lst pa_nil) (nomark _)) (pe_ix (ix_seq : IxR _ (rIx K)) (pv 14) pe_int (fun _ _ => rfl)) pe_non) (pa_cons (pe_cmp (pc_isN (pv 9))) pa_nil))) pa_nil))))) (pss_one (ps_ret pe_bl)) pss_nil)
    ht)))), ?_⟩
  intro n p F tin D vm vl vo vba vde vdu o0 o6 o10 o11 o12 o13 o14 o15 o16 o17 o18 o19 o20 o21 o22 o23 o24 o25 o26 o27 o28 h rm rl ro rk rba rde rdu
  have hn := h.n1
  have hn3 := h.n3
  refine erb_setB (K := K) (i := 11) (n := 65) (m := 110) (Pv := fun d => ∃ ks : List Int, d = Datum.toD (Tup.mk (isetV ks)) ∧ (∀ k ∈ ks, 0 ≤ k ∧ k < (n : Int)) ∧ ks.length ≤ 40) (eb_lift (fun te => tCall (SpG K R_law_set) [] E0 (tCons te tNil)) (fun te H Q => rfl) (eb_callR (n := 64) (n1 := 1) (i := 1) (Pb := fun d => ∃ j : Int, d = .int j ∧ 0 ≤ j) rfl (ev_rangeL1 (ev_var (i := 2) rfl rm) ?_) (EvB.imp (eb_call (i := 1) rfl (ea_cons (ev_i0 (ev_var (i := 2) rfl rm) ev_int) ea_nil) (take_ex ?_)) fun d hd => ?_) fun d hd => ?_) fun F0 v d s0 hd r => ?_) fun F1 vp d s1 hd rp0 => ?_
  · omega
  · omega
  · obtain ⟨b, i, e, hb, h0, h1, rfl⟩ := hd
    exact ⟨i, rfl, h0⟩
  · obtain ⟨j, rfl, h0⟩ := hd
    exact pick_ex h0 (by rw [rangeL_len]; omega)
  · obtain ⟨_, ⟨j, rfl, h0⟩, hd⟩ := hd
    obtain ⟨ks, zs, rfl, pm, hyl⟩ := pick_typed (xs := rangeL 0 (n : Int)) (m := j) hd
    rw [rangeL_len] at hyl
    exact ⟨_, ⟨ks, rfl, fun k hk => mem_rangeL (pm.mem_iff.mp (List.mem_append_left _ hk)), by omega⟩, ev_call (ea_cons (ev_val (show Rp K F0 v ks from r)) ea_nil) (.inr (r1_mk (by omega)))⟩
  obtain ⟨ks0, rfl, hks, hkl⟩ := hd
  have gpl := places_ok hks hkl
  generalize isetV ks0 = ks at *
  have rp : Rp K F1 vp (Tup.mk ks) := rp0
  have hq4 := turnP_g h.g ks
  have hq5 := turnP_f h.few ks
  have hbe := barL_bent h.g h.few hn3 ks
  have hbn := none_bent h ks
  have hbl : (barL p n).length ≤ 27 := barL_small hn3
  refine erb_two (K := K) (i := 12) (j := 13) (x := turnP p ks) (ev_call (ea_cons (ev_d2 (ev_var (i := 3) rfl (rl.mono s1)) (ev_var (i := 4) rfl (ro.mono s1))) (ea_cons (ev_var (i := 11) rfl rp) ea_nil)) (k_turned (p := p) (ks := Tup.mk ks) h.g gpl)) fun F2 vn vf s2 rn rf => ?_
  generalize turnP p ks = q at *
  refine erb_set (i := 14) (Ev.cast (ev_sort (ev_lc1 (ei_list (ev_var (i := 7) rfl (rba.mono (s1.trans s2)))) (fun F3 v3 x3 s3 hx3 r3 => lcb_name ⟨rfl, (ev_tupL (ev_lc1 (ei_enumT (ev_var (i := 25) rfl r3)) (fun F4 v4 x4 s4 hx4 r4 => lcb_two r4 fun u101 w101 ru101 rw101 => ⟨rfl, (ev_if (et_test (ev_inT (ev_var (i := 28) rfl ru101) (ev_var (i := 11) rfl (rp.mono (s2.trans (s3.trans s4)))))) (fun h102 => (ev_i0 ev_int (ev_var (i := 24) rfl rw101))) (fun h102 => (ev_var (i := 24) rfl rw101)))⟩)))⟩)) ?_) hbe) fun F3 v3 s3 r3 => ?_
  · refine sort_rows fun x hx => ?_
    obtain ⟨y, hy, rfl⟩ := List.mem_map.mp hx
    exact sup_ne hn (bend_sup ks (everyS_iff.mp (List.mem_filter.mp hy).1))
  refine erb_notK (EvT.cast (et_not (et_val (ev_call (ea_consD (evd_dispL (ea_consD (evd_call (ea_cons (ev_var (i := 12) rfl (rn.mono s3)) (ea_cons (ev_var (i := 13) rfl (rf.mono s3)) ea_nil)) (k_bar hq4 hq5)) (ea_cons (ev_call (ea_cons (ev_var (i := 12) rfl (rn.mono s3)) (ea_cons (ev_var (i := 13) rfl (rf.mono s3)) ea_nil)) (k_all hq4 hq5)) ea_nil)) (by show 2 ≤ sizeLine; decide)) (ea_consD (evd_cast (evd_dispL (ea_consD (evd_if (et_test (ev_ne (ev_var (i := 14) rfl r3) (ev_dL es_nil))) (fun h9 => ev_nthL (ev_var (i := 14) rfl r3) ev_int ?_) (fun h9 => ev_none)) (ea_cons (ev_isN (evd_var (i := 9) rfl (dp_mono (s1.trans (s2.trans s3)) _ _ rdu))) ea_nil)) (by show 2 ≤ sizeLine; decide)) (by rw [due_eq, isN_opt, hbn, barV_head q])) ea_nil)) (k_same (dptL fun d hd => ?_))))) rfl) fun F4 s4 => ?_
  · have h9 := of_decide_eq_true h9
    exact ⟨by decide, by have := List.length_pos_iff.mpr h9; omega⟩
  · simp only [List.mem_cons, List.not_mem_nil, or_false] at hd
    rcases hd with rfl | rfl
    · exact dpt_opt _
    · exact dpt_bool _
  exact (hq h (rm.mono (s1.trans (s2.trans (s3.trans s4)))) (rl.mono (s1.trans (s2.trans (s3.trans s4)))) (ro.mono (s1.trans (s2.trans (s3.trans s4)))) (rk.mono (s1.trans (s2.trans (s3.trans s4)))) (rde.mono (s1.trans (s2.trans (s3.trans s4))))).more (by decide)

end
end Sp

set_option Elab.async false
set_option linter.all false
set_option maxRecDepth 100000
set_option maxHeartbeats 4000000
namespace Sp
open PySem PySem.Spec PyProof.Rows L2
open PySem.W (Datum DatumOrd Tup)

theorem sort_lk {n : Nat} {p : Lots} (h : n ≤ 3) (q : Row → Bool) : (((((kindM p (everyS n)).map (·.1)).filter q).map fun x => x).mergeSort fun a b => !DatumOrd.lt b a) = (everyS n).filter q := by
  rw [kindM_keys, List.map_id']
  exact sort_kind (p := p) h q
section
variable {P : Program} {w : World} {K : PySem.W.Frag} {mg : Str → Option Value} {base : Heap}

theorem lw_l2 (B : Bn mg) (c__law_box : C8.Cal P w K mg base 1 "_law_box" (SpBox K) []) (c__law_cells : C8.Cal P w K mg base 1 "_law_cells" (SpCells K) []) (c__law_every : C8.Cal P w K mg base 2 "_law_every" (SpG K R_law_every) []) (c__law_lists : C8.Cal P w K mg base 6 "_law_lists" (SpG K (R_law_lists 4)) []) (c__law_lot : C8.Cal P w K mg base 4 "_law_lot" (SpD K 1000 R_lot) []) (c__law_of : C8.Cal P w K mg base 2 "_law_of" (SpD K 1 R_of) []) (c__law_pick : C8.Cal P w K mg base 2 "_law_pick" (SpD K 64 R_pick) []) (c__law_rows_to : C8.Cal P w K mg base 1 "_law_rows_to" (SpG K R_law_rows_to) []) (c__law_same : C8.Cal P w K mg base 8 "_law_same" (SpG K (R_law_same 6)) []) (c__law_set : C8.Cal P w K mg base 1 "_law_set" (SpG K R_law_set) []) (c__law_take : C8.Cal P w K mg base 1 "_law_take" (SpD K 1 R_take) []) (c_all_dealt : C8.Cal P w K mg base 10 "all_dealt" (SpG K R_all_dealt) []) (c_barred_supply : C8.Cal P w K mg base 9 "barred_supply" (SpG K R_barred_supply) []) (c_deal_paper : C8.Cal P w K mg base 9 "deal_paper" (SpG K R_deal_paper) []) (c_deals : C8.Cal P w K mg base 9 "deals" (SpG K R_deals) []) (c_sums : C8.Cal P w K mg base 9 "sums" (SpG K R_sums) []) (c_turned_houses : C8.Cal P w K mg base 8 "turned_houses" (SpG K R_turned_houses) []) {f : Addr} {cdv : Value} {A : Around} {outer : List Env} {s : Shared} {H : Hp} {E : XK} (hr : Room 10 (A.deeper (envOfC "law" (defScope (top 66)) s.heap.objs.size f cdv))) :
    ∃ t, PSs (cxOf CX0 P w K mg base lawN "law" (defScope (top 66)) f cdv A outer s H E).nox ((defBody (top 66)).drop 5) t ∧ ∀ {n : Nat} {p : Lots} {F : Hp} {tin D : Addr} {vm vl vo : V} {o0 o6 o7 o8 o9 o10 o11 o12 o13 o14 o15 o16 o17 o18 o19 o20 o21 o22 o23 o24 o25 o26 o27 o28 : Option V} (h : Lw n p) (rm : Rp K F vm (n : Int)) (rl : Rp K F vl p.1) (ro : Rp K F vo p.2) (rk : LkD K F D (kindM p (everyS n))), EvRB K F tin 175 t [o0, some (.ref tin), some vm, some vl, some vo, some (.ref D), o6, o7, o8, o9, o10, o11, o12, o13, o14, o15, o16, o17, o18, o19, o20, o21, o22, o23, o24, o25, o26, o27, o28] (fun d => d = .bool true) := by
  obtain ⟨t, ht, hq⟩ := lw_l3 B c__law_box c__law_cells c__law_every c__law_lists c__law_lot c__law_of c__law_pick c__law_rows_to c__law_same c__law_set c__law_take c_all_dealt c_barred_supply c_deal_paper c_deals c_sums c_turned_houses hr
  refine ⟨_, (pss_cons (ps_set (i := 7) sclaw.nd rfl (by first | exact Or.inl rfl | exact Or.inr rfl) (pe_callB (cr_sortX hr.units : CallR _ _ (rSortX K)) (by rfl) B.sorted PyProof.Rows.boot_sorted (pa_cons (pe_lock (pe_lc rfl sclaw.nd (pi_keys (pv 5) : PI _ _ _ (iKeys _)) (blkOk_by (own := [("own", 24)]) (by kernel_rfl)) (fun _ _ _ _ _ => (pg_name (i := 24) sclaw.nd rfl (by first | exact Or.inl rfl | exact Or.inr rfl))) (fun _ _ _ _ _ => (pts_one (pt_cmpR (op_eqX hr.units : OpR _ _ (rEqX K)) (pe_dget (Nat.lt_of_le_of_lt (Nat.add_le_add_left (by decide) _) hr.units) (pv 5) (pv 24) (fun _ _ => rfl)) pe_str (nomark _)))) (fun _ _ _ _ _ => (pv 24)))) pa_nil)))
    (pss_cons (ps_set (i := 8) sclaw.nd rfl (by first | exact Or.inl rfl | exact Or.inr rfl) (pe_callB (cr_sortX hr.units : CallR _ _ (rSortX K)) (by rfl) B.sorted PyProof.Rows.boot_sorted (pa_cons (pe_lock (pe_lc rfl sclaw.nd (pi_keys (pv 5) : PI _ _ _ (iKeys _)) (blkOk_by (own := [("own", 24)]) (by kernel_rfl)) (fun _ _ _ _ _ => (pg_name (i := 24) sclaw.nd rfl (by first | exact Or.inl rfl | exact Or.inr rfl))) (fun _ _ _ _ _ => (pts_one (pt_cmpR (op_eqX hr.units : OpR _ _ (rEqX K)) (pe_dget (Nat.lt_of_le_of_lt (Nat.add_le_add_left (by decide) _) hr.units) (pv 5) (pv 24) (fun _ _ => rfl)) pe_str (nomark _)))) (fun _ _ _ _ _ => (pv 24)))) pa_nil)))
    (pss_cons (ps_set (i := 9) sclaw.nd rfl (by first | exact Or.inl rfl | exact Or.inr rfl) (pe_ifExp (pt_cmpR (op_neX hr.units : OpR _ _ (rNeX K)) (pv 7) (pe_lst pa_nil) (nomark _)) (pe_ix (ix_seq : IxR _ (rIx K)) (pv 7) pe_int (fun _ _ => rfl)) pe_non))
    (pss_cons (ps_set (i := 10) sclaw.nd rfl (by first | exact Or.inl rfl | exact Or.inr rfl) (pe_lst (pa_cons (C8.pe_c c_barred_supply hr (by decide) (by rfl) (pa_cons (C8.pe_c c__law_lists hr (by decide) (by rfl) (pa_cons (pv 3) pa_nil)) (pa_cons (pv 4) pa_nil))) (pa_cons (C8.pe_c c_all_dealt hr (by decide) (by rfl) (pa_cons (pv 3) (pa_cons (pv 4) pa_nil))) (pa_cons (pe_callTy (cr_listX : CallR _ _ (rListX K)) (by rfl) B.list PyProof.Rows.boot_list (pa_cons (C8.pe_c c_sums hr (by decide) (by rfl) (pa_cons (pv 3) (pa_cons (pv 4) pa_nil))) pa_nil)) (pa_cons (C8.pe_c c_barred_supply hr (by decide) (by rfl) (pa_cons (pv 4) (pa_cons (pv 3) pa_nil))) (pa_cons (C8.pe_c c_all_dealt hr (by decide) (by rfl) (pa_cons (pv 4) (pa_cons (pv 3) pa_nil))) pa_nil)))))))
    (pss_cons (ps_if (pt_not (pt_val (C8.pe_c c__law_same hr (by decide) (by rfl) (pa_cons (pv 10) (pa_cons (pe_lst (pa_cons (pv 9) (pa_cons (pe_cmp (pc_isN (pv 9))) (pa_cons (pv 8) (pa_cons (pv 9) (pa_cons (pe_cmp (pc_isN (pv 9))) pa_nil)))))) pa_nil))))) (pss_one (ps_ret pe_bl)) pss_nil)
    ht))))), ?_⟩
  intro n p F tin D vm vl vo o0 o6 o7 o8 o9 o10 o11 o12 o13 o14 o15 o16 o17 o18 o19 o20 o21 o22 o23 o24 o25 o26 o27 o28 h rm rl ro rk 
  have hn := h.n1
  have hn3 := h.n3
  refine erb_set (K := K) (i := 7) (Ev.cast (ev_sort (ev_lcD' (i := 5) (v := .ref D) (p := fun own => decide (kind p own = "mixes")) (f := fun x => x) rfl rk (by unfold kindM; rw [List.length_map]; have := everyS_small hn3; omega) fun Fl ds rd F0 v0 x sx hx r => ?_) ?_) (show _ = barL p n from sort_lk (p := p) hn3 _)) fun F1 v1 s1 r1 => ?_
  · rw [kindM_keys] at hx
    exact lcb_name ⟨rfl, et_test (ev_eq (ev_dget (i := 5) rfl (rd.mono sx) (ev_var (i := 24) rfl r) (kindM_look hx)) ev_str), fun _ => ev_var (i := 24) rfl r⟩
  · refine sort_rows fun x hx => ?_
    obtain ⟨y, hy, rfl⟩ := List.mem_map.mp hx
    have hy := (List.mem_filter.mp hy).1
    rw [kindM_keys] at hy
    exact sup_ne hn (everyS_iff.mp hy)
  refine erb_set (K := K) (i := 8) (Ev.cast (ev_sort (ev_lcD' (i := 5) (v := .ref D) (p := fun own => decide (kind p own = "deal")) (f := fun x => x) rfl (rk.mono s1) (by unfold kindM; rw [List.length_map]; have := everyS_small hn3; omega) fun Fl ds rd F0 v0 x sx hx r => ?_) ?_) (show _ = dealL p n from sort_lk (p := p) hn3 _)) fun F2 v2 s2 r2 => ?_
  · rw [kindM_keys] at hx
    exact lcb_name ⟨rfl, et_test (ev_eq (ev_dget (i := 5) rfl (rd.mono sx) (ev_var (i := 24) rfl r) (kindM_look hx)) ev_str), fun _ => ev_var (i := 24) rfl r⟩
  · refine sort_rows fun x hx => ?_
    obtain ⟨y, hy, rfl⟩ := List.mem_map.mp hx
    have hy := (List.mem_filter.mp hy).1
    rw [kindM_keys] at hy
    exact sup_ne hn (everyS_iff.mp hy)
  have hbl : (barL p n).length ≤ 27 := barL_small hn3
  refine erb_setD (K := K) (i := 9) (x := optR (barV p n)) (evd_cast (evd_if (et_test (ev_ne (ev_var (i := 7) rfl (r1.mono s2)) (ev_dL es_nil))) (fun h9 => ev_nthL (ev_var (i := 7) rfl (r1.mono s2)) ev_int ?_) (fun h9 => ev_none)) (by rw [due_eq, barV_head])) fun F3 v3 s3 r3 => ?_
  · have h9 := of_decide_eq_true h9
    exact ⟨by decide, by have := List.length_pos_iff.mpr h9; omega⟩
  have hs1 := h.swap
  have eb : barV (p.2, p.1) n = barV p n := by rw [barV_head, barV_head, barL_swap h.g h.few]
  have es : sset (sumsL p) = dealL p n := sums_deal h.g hn3
  refine erb_setD (K := K) (i := 10) (x := (.list [optR (barV p n), Datum.toD (barV p n).isNone, Datum.toD (dealL p n), optR (barV p n), Datum.toD (barV p n).isNone])) (evd_cast (evd_dispL (ea_consD (evd_call (ea_consD (evd_call (ea_cons (ev_var (i := 3) rfl (rl.mono (s1.trans (s2.trans s3)))) ea_nil) (k_lists (Nat.le_trans (dpt_lot _) (by decide)))) (ea_cons (ev_var (i := 4) rfl (ro.mono (s1.trans (s2.trans s3)))) ea_nil)) (k_barL (p := p) h.g h.few)) (ea_cons (ev_call (ea_cons (ev_var (i := 3) rfl (rl.mono (s1.trans (s2.trans s3)))) (ea_cons (ev_var (i := 4) rfl (ro.mono (s1.trans (s2.trans s3)))) ea_nil)) (k_all (p := p) h.g h.few)) (ea_cons (ev_listT (ev_call (ea_cons (ev_var (i := 3) rfl (rl.mono (s1.trans (s2.trans s3)))) (ea_cons (ev_var (i := 4) rfl (ro.mono (s1.trans (s2.trans s3)))) ea_nil)) (k_sums (p := p) h.g h.mul))) (ea_consD (evd_call (ea_cons (ev_var (i := 4) rfl (ro.mono (s1.trans (s2.trans s3)))) (ea_cons (ev_var (i := 3) rfl (rl.mono (s1.trans (s2.trans s3)))) ea_nil)) (k_bar (p := (p.2, p.1)) hs1.g hs1.few)) (ea_cons (ev_call (ea_cons (ev_var (i := 4) rfl (ro.mono (s1.trans (s2.trans s3)))) (ea_cons (ev_var (i := 3) rfl (rl.mono (s1.trans (s2.trans s3)))) ea_nil)) (k_all (p := (p.2, p.1)) hs1.g hs1.few)) ea_nil))))) (by show 5 ≤ sizeLine; decide)) (by rw [eb, es])) fun F4 v4 s4 r4 => ?_
  refine erb_notK (EvT.cast (et_not (et_val (ev_call (ea_consD (evd_var (i := 10) rfl r4) (ea_consD (evd_cast (evd_dispL (ea_consD (evd_var (i := 9) rfl (dp_mono s4 _ _ r3)) (ea_cons (ev_isN (evd_var (i := 9) rfl (dp_mono s4 _ _ r3))) (ea_cons (ev_var (i := 8) rfl (r2.mono (s3.trans s4))) (ea_consD (evd_var (i := 9) rfl (dp_mono s4 _ _ r3)) (ea_cons (ev_isN (evd_var (i := 9) rfl (dp_mono s4 _ _ r3))) ea_nil))))) (by show 5 ≤ sizeLine; decide)) (by rw [isN_opt])) ea_nil)) (k_same (d := (.list [optR (barV p n), Datum.toD (barV p n).isNone, Datum.toD (dealL p n), optR (barV p n), Datum.toD (barV p n).isNone])) (dptL fun d hd => ?_))))) rfl) fun F5 s5 => ?_
  · simp only [List.mem_cons, List.not_mem_nil, or_false] at hd
    rcases hd with rfl | rfl | rfl | rfl | rfl
    · exact dpt_opt _
    · exact dpt_bool _
    · exact Nat.le_trans (dpt_rows _) (by decide)
    · exact dpt_opt _
    · exact dpt_bool _
  exact (hq h (rm.mono (s1.trans (s2.trans (s3.trans (s4.trans s5))))) (rl.mono (s1.trans (s2.trans (s3.trans (s4.trans s5))))) (ro.mono (s1.trans (s2.trans (s3.trans (s4.trans s5))))) (rk.mono (s1.trans (s2.trans (s3.trans (s4.trans s5))))) (r1.mono (s2.trans (s3.trans (s4.trans s5)))) (r2.mono (s3.trans (s4.trans s5))) (dp_mono (s4.trans s5) _ _ r3)).more (by decide)

end
end Sp

set_option Elab.async false
set_option linter.all false
set_option maxRecDepth 100000
set_option maxHeartbeats 4000000
namespace Sp
open PySem PySem.Spec PyProof.Rows L2
open PySem.W (Datum DatumOrd Tup)

def SpLaw (K : PySem.W.Frag) : L2.Sp := fun vs H Q _ => ∃ (a : Addr) (xs : List Int), vs = [.ref a] ∧ SqL K H a (xs.map V.int) ∧ ∀ H', Q (.bl true) H'
theorem erb_run {K : PySem.W.Frag} {tin : Addr} {n : Nat} {t : TS} {σ : L2.St} {H : Hp} {c : Addr → Bool} {D : Ends} (ok : Okc c H) (ct : c tin = true) (bx : BoxAt H tin n) (q : ∀ H', D.rt (.bl true) H') (main : EvRB K (hid c H) tin n t σ (fun d => d = .bool true)) : t D σ H := main c H 0 (Same.refl _) ok ct (by simpa using bx) D fun v H' d hd s b r => by
  subst hd
  cases r
  exact q H'
theorem fn_any {P : Program} {w : World} {K : PySem.W.Frag} {mg : Str → Option Value} {base : Heap} {x : Str} {st : Stmt} {k : Nat} {ps N : List Str} {f : Addr} {fd : FuncData} {sp : L2.Sp} (F : FunD K x x (defArgs st) (defBody st) (defScope st) [] [] f fd) (S : FnScope N ps (defScope st))
    (hR : ∀ vs H Q E, sp vs H Q E → vs.length = ps.length)
    (body : ∀ (f : Addr) (cdv : Value) (A : Around) (outer : List Env) (s : Shared) (H : Hp) (E : XK), Room k (A.deeper (envOfC x (defScope st) s.heap.objs.size f cdv)) →
      ∃ t, PSs (cxOf CX0 P w K mg base N x (defScope st) f cdv A outer s H E).nox (defBody st) t ∧ ∀ vs Q, sp vs H Q E → t { nx := fun _ H' => Q .non H', rt := Q } (start N vs) H) : FnOk P w K mg base CX0 (k + 1) f fd ps sp :=
  F.ok S hR fun cdv A outer s H vs Q E hr h => by
    obtain ⟨t, ht, q⟩ := body f cdv A outer s H E hr
    exact ⟨t, ht.nox, q vs Q h⟩

theorem evq_imp {K : PySem.W.Frag} {F : Hp} {D : Addr} {σ : L2.St} {t : TS} {γ : Type} [DecidableEq γ] [Datum γ] {m : List (Tup Int × γ)} {N M : Hp → L2.St → List (Tup Int × γ) → Prop} (h : EvQ K F D t σ m N) (i : ∀ F σ m, N F σ m → M F σ m) : EvQ K F D t σ m M := fun c H a ok cl DD q => h c H a ok cl DD fun σ' H' m' s c n => q σ' H' m' s c (i _ _ _ n)
theorem take_succ {α : Type} {xs : List α} {i : Nat} {x : α} (h : xs[i]? = some x) : xs.take (i + 1) = xs.take i ++ [x] := by
  rw [List.take_add_one, h]
  rfl
theorem kindM_snoc {p : Lots} {xs : List Row} {x : Row} : kindM p (xs ++ [x]) = kindM p xs ++ [(x, kind p x)] := by
  unfold kindM
  rw [List.map_append]
  rfl
theorem deal_same {n : Nat} {p : Lots} {s : Row} : decide ((Tup.mk (dealsV p s) : Tup (Row × Row)) ≠ Tup.mk []) = decide (kind p s = "deal") := by
  rw [Bool.eq_iff_iff, decide_eq_true_eq, decide_eq_true_eq, kind_deal]
  exact ⟨fun h e => h (by rw [e]), fun h e => h (congrArg Tup.items e)⟩

set_option maxHeartbeats 0
section
variable {P : Program} {w : World} {K : PySem.W.Frag} {mg : Str → Option Value} {base : Heap}
theorem c_law (B : Bn mg) (c__law_box : C8.Cal P w K mg base 1 "_law_box" (SpBox K) []) (c__law_cells : C8.Cal P w K mg base 1 "_law_cells" (SpCells K) []) (c__law_every : C8.Cal P w K mg base 2 "_law_every" (SpG K R_law_every) []) (c__law_lists : C8.Cal P w K mg base 6 "_law_lists" (SpG K (R_law_lists 4)) []) (c__law_lot : C8.Cal P w K mg base 4 "_law_lot" (SpD K 1000 R_lot) []) (c__law_of : C8.Cal P w K mg base 2 "_law_of" (SpD K 1 R_of) []) (c__law_pick : C8.Cal P w K mg base 2 "_law_pick" (SpD K 64 R_pick) []) (c__law_rows_to : C8.Cal P w K mg base 1 "_law_rows_to" (SpG K R_law_rows_to) []) (c__law_same : C8.Cal P w K mg base 8 "_law_same" (SpG K (R_law_same 6)) []) (c__law_set : C8.Cal P w K mg base 1 "_law_set" (SpG K R_law_set) []) (c__law_take : C8.Cal P w K mg base 1 "_law_take" (SpD K 1 R_take) []) (c_all_dealt : C8.Cal P w K mg base 10 "all_dealt" (SpG K R_all_dealt) []) (c_barred_supply : C8.Cal P w K mg base 9 "barred_supply" (SpG K R_barred_supply) []) (c_deal_paper : C8.Cal P w K mg base 9 "deal_paper" (SpG K R_deal_paper) []) (c_deals : C8.Cal P w K mg base 9 "deals" (SpG K R_deals) []) (c_sums : C8.Cal P w K mg base 9 "sums" (SpG K R_sums) []) (c_turned_houses : C8.Cal P w K mg base 8 "turned_houses" (SpG K R_turned_houses) []) {f0 : Addr} {fd0 : FuncData} (F0 : FunD K "law" "law" (defArgs (top 66)) (defBody (top 66)) (defScope (top 66)) [] [] f0 fd0) : FnOk P w K mg base CX0 11 f0 fd0 ["script"] (SpLaw K) := by
  refine fn_any (sp := SpLaw K) F0 sclaw (fun vs H Q E h => by obtain ⟨a, xs, rfl, _⟩ := h; rfl) fun f cdv A outer s H E hr => ?_
  obtain ⟨t, ht, hq⟩ := lw_l2 B c__law_box c__law_cells c__law_every c__law_lists c__law_lot c__law_of c__law_pick c__law_rows_to c__law_same c__law_set c__law_take c_all_dealt c_barred_supply c_deal_paper c_deals c_sums c_turned_houses hr
  refine ⟨_, (pss_cons (ps_set (i := 1) sclaw.nd rfl (by first | exact Or.inl rfl | exact Or.inr rfl) (C8.pe_c c__law_box hr (by decide) (by rfl) (pa_cons (C8.pe_c c__law_cells hr (by decide) (by rfl) (pa_cons (pv 0) (pa_cons pe_int pa_nil))) (pa_cons pe_int pa_nil))))
    (pss_cons (ps_set (i := 2) sclaw.nd rfl (by first | exact Or.inl rfl | exact Or.inr rfl) (pe_op op_add pe_int (C8.pe_c c__law_take hr (by decide) (by rfl) (pa_cons (pv 1) (pa_cons pe_int pa_nil)))))
    (pss_cons (ps_asg (pe_tup (pa_cons (C8.pe_c c__law_lot hr (by decide) (by rfl) (pa_cons (pv 1) (pa_cons (pv 2) (pa_cons pe_int pa_nil)))) (pa_cons (C8.pe_c c__law_lot hr (by decide) (by rfl) (pa_cons (pv 1) (pa_cons (pv 2) (pa_cons pe_int pa_nil)))) pa_nil))) (pg_tup (n := 2) rfl (pgs_cons (pg_name (i := 3) sclaw.nd rfl (by first | exact Or.inl rfl | exact Or.inr rfl)) (pgs_cons (pg_name (i := 4) sclaw.nd rfl (by first | exact Or.inl rfl | exact Or.inr rfl)) pgs_nil)) : PG _ _ (gTup K 2 _)))
    (pss_cons (ps_set (i := 5) sclaw.nd rfl (by first | exact Or.inl rfl | exact Or.inr rfl) pe_dnewT)
    (pss_cons (ps_for PassesOwn.never rfl (pi_seqX (C8.pe_c c__law_rows_to hr (by decide) (by rfl) (pa_cons (pv 2) (pa_cons pe_int (pa_cons pe_int pa_nil)))) : PI _ _ _ (iSeqX K _)) (pg_name (i := 6) sclaw.nd rfl (by first | exact Or.inl rfl | exact Or.inr rfl)) (pss_cons (ps_dput (Nat.lt_of_le_of_lt (Nat.add_le_add_left (by decide) _) hr.units) (pv 5) (pv 6) (pe_ix (ix_seq : IxR _ (rIx K)) (C8.pe_c c_deal_paper hr (by decide) (by rfl) (pa_cons (pv 3) (pa_cons (pv 4) (pa_cons (pv 6) pa_nil)))) pe_int (fun _ _ => rfl)) rfl)
    (pss_one (ps_if (pt_not (pt_val (C8.pe_c c__law_same hr (by decide) (by rfl) (pa_cons (pe_cmpR (op_eqX hr.units : OpR _ _ (rEqX K)) (pe_dget (Nat.lt_of_le_of_lt (Nat.add_le_add_left (by decide) _) hr.units) (pv 5) (pv 6) (fun _ _ => rfl)) pe_str (nomark _)) (pa_cons (pe_cmpR (op_neX hr.units : OpR _ _ (rNeX K)) (C8.pe_c c_deals hr (by decide) (by rfl) (pa_cons (pv 3) (pa_cons (pv 4) (pa_cons (pv 6) pa_nil)))) (pe_tup pa_nil) (nomark _)) pa_nil))))) (pss_one (ps_ret pe_bl)) pss_nil))))
    ht))))), ?_⟩
  rintro vs Q ⟨a, xs, rfl, hs, q⟩
  refine seq_set ⟨.ref a, rfl, ⟨a, xs, rfl, hs, fun vc H1 ys hys s1 rv => ⟨vc, ys, rfl, rv, hys, fun tin H2 x y z hb s2 htin etin => ?_⟩⟩⟩
  refine erb_run (K := K) (tin := tin) (n := 1000000) (c := fun b => b == tin) (fun b hb => by
    have hb : b = tin := by simpa using hb
    rw [hb, etin]
    exact ⟨_, rfl, fun _ e => nomatch e⟩) (by simp) ⟨x, y, z, etin, hb⟩ q ?_
  generalize hid (fun b => b == tin) H2 = F
  refine erb_setB (K := K) (i := 2) (n := 1) (m := 999999) (Pv := fun d => ∃ n : Nat, d = .int (n : Int) ∧ 1 ≤ n ∧ n ≤ 3) (EvB.imp (eb_i0r (Pv := fun j => 0 ≤ j ∧ j < 3) ev_int (EvB.imp (eb_call (i := 1) rfl (ea_cons (x := (3 : Int)) ev_int ea_nil) (take_ex (by decide))) fun d hd => ?_)) fun d hd => ?_) fun F1 vm d s1 hd rm0 => ?_
  · obtain ⟨b, i, e, hb, h0, h1, rfl⟩ := hd
    injection e with e _
    have e : (3 : Int) = b := by injection e
    exact ⟨i, rfl, h0, by omega⟩
  · obtain ⟨j, ⟨h0, h1⟩, rfl⟩ := hd
    exact ⟨(1 + j).toNat, by rw [Int.toNat_of_nonneg (by omega)], by omega, by omega⟩
  obtain ⟨n, rfl, hn, hn3⟩ := hd
  have rm : Rp K F1 vm (n : Int) := rm0
  have hm5 : 1 ≤ n ∧ n ≤ 5 := ⟨hn, by omega⟩
  refine erb_asgT (K := K) (g := gName 0) (i := 3) (j := 4) (n1 := 1000) (n2 := 1000) (m := 997999) (eb_call (i := 1) rfl (ea_cons (ev_var (i := 2) rfl rm) (ea_cons (x := (6 : Int)) ev_int ea_nil)) (lot_ex hm5 (by decide))) (fun F2 s2 => eb_call (i := 1) rfl (ea_cons (ev_var (i := 2) rfl (rm.mono s2)) (ea_cons (x := (6 : Int)) ev_int ea_nil)) (lot_ex hm5 (by decide))) fun F2 vl vo d e s2 hd he rl0 ro0 => ?_
  obtain ⟨l1, rfl, g1, hl1⟩ := lot_un hd (by decide)
  obtain ⟨l2, rfl, g2, hl2⟩ := lot_un he (by decide)
  have h : Lw n (l1, l2) := ⟨⟨g1.lot, g2.lot, ⟨hn, by omega⟩⟩, hn, hn3, by show l1.items.length ≤ 6; omega, by show l2.items.length ≤ 6; omega⟩
  have rl : Rp K F2 vl l1 := rl0
  have ro : Rp K F2 vo l2 := ro0
  have rm2 := rm.mono s2
  refine erb_dict (K := K) (γ := Str) (i := 5) (fun D F' σ' m => ∃ o6, σ' = [some (.ref a), some (.ref tin), some vm, some vl, some vo, some (.ref D), o6, none, none, none, none, none, none, none, none, none, none, none, none, none, none, none, none, none, none, none, none, none, none] ∧ m = kindM (l1, l2) (everyS n)) (fun D F3 s3 => ?_) (fun D F3 F4 σ1 m s4 s5 hN rk => ?_)
  · have rl3 := rl.mono s3
    have ro3 := ro.mono s3
    refine evq_imp (eq_for (K := K) (γ := Str) (ys := everyS n) (ei_list (ev_call (ea_cons (ev_var (i := 2) rfl (rm2.mono s3)) (ea_cons (x := (0 : Int)) ev_int (ea_cons (x := (2 : Int)) ev_int ea_nil))) (R_law_rows_to_mk (by omega)))) (fun i F' σ' m => ∃ o6, σ' = [some (.ref a), some (.ref tin), some vm, some vl, some vo, some (.ref D), o6, none, none, none, none, none, none, none, none, none, none, none, none, none, none, none, none, none, none, none, none, none, none] ∧ m = kindM (l1, l2) ((everyS n).take i)) (fun i F1 F2 σ m s h => h) ⟨none, rfl, by rw [List.take_zero]; rfl⟩ fun i F4 v s σ' m' s4 hx r hp => ?_) (fun F4 σ' m' hN => by rw [List.take_length] at hN; exact hN)
    obtain ⟨o6, rfl, rfl⟩ := hp
    have hsm : s ∈ everyS n := List.mem_of_getElem? hx
    have gs := everyS_iff.mp hsm
    have hi := (List.getElem?_eq_some_iff.mp hx).1
    have nd := lot_nodup (everyS_asc hn3)
    have hsn : s ∈ (everyS n).take (i + 1) := by rw [take_succ hx]; simp
    refine lcb_name (eq_seq (M := fun F' σ' m' => σ' = [some (.ref a), some (.ref tin), some vm, some vl, some vo, some (.ref D), some v, none, none, none, none, none, none, none, none, none, none, none, none, none, none, none, none, none, none, none, none, none, none] ∧ m' = kindM (l1, l2) ((everyS n).take (i + 1))) (eq_put (i := 5) rfl (ev_var (i := 6) rfl r) (ev_word (p := (l1, l2)) (evd_call (ea_cons (ev_var (i := 3) rfl (rl3.mono s4)) (ea_cons (ev_var (i := 4) rfl (ro3.mono s4)) (ea_cons (ev_var (i := 6) rfl r) ea_nil))) (k_paper (p := (l1, l2)) h.g h.few gs))) ?_ ?_ fun F5 s5 => ⟨rfl, ?_⟩) fun F5 σ5 m5 s5 hm5 => ?_)
    · rw [kindM_keys]
      intro hin
      obtain ⟨j, hj, e⟩ := List.mem_iff_getElem.mp hin
      rw [List.length_take] at hj
      rw [List.getElem_take] at e
      have e2 : (everyS n)[i] = s := (List.getElem?_eq_some_iff.mp hx).2
      have := (List.getElem_inj nd).mp (e.trans e2.symm)
      omega
    · unfold kindM
      rw [List.length_map, List.length_take]
      have := everyS_small hn3
      unfold sizeLine
      omega
    · rw [take_succ hx, kindM_snoc]
    · obtain ⟨rfl, rfl⟩ := hm5
      refine eq_if (b := false) (fun F6 s6 rd => EvT.cast (et_not (et_val (ev_call (ea_cons (ev_eq (ev_dget (i := 5) rfl rd (ev_var (i := 6) rfl ((r.mono s5).mono s6)) (kindM_look hsn)) ev_str) (ea_cons (Ev.cast (ev_ne (ev_call (ea_cons (ev_var (i := 3) rfl (((rl3.mono s4).mono s5).mono s6)) (ea_cons (ev_var (i := 4) rfl (((ro3.mono s4).mono s5).mono s6)) (ea_cons (ev_var (i := 6) rfl ((r.mono s5).mono s6)) ea_nil))) (k_deals (p := (l1, l2)) h.g gs)) (ev_dT es_nil)) (deal_same (n := n))) ea_nil)) (k_same (Nat.zero_le _))))) rfl) (fun e => nomatch e) (fun _ => eq_next fun F6 s6 => ⟨_, rfl, rfl⟩)
  · obtain ⟨o6, rfl, rfl⟩ := hN
    exact (hq h (rm2.mono s4) (rl.mono s4) (ro.mono s4) rk).more (by decide)

end
end Sp

set_option Elab.async false
set_option linter.all false
set_option maxRecDepth 100000
set_option maxHeartbeats 4000000
namespace Sp
open PySem PySem.Spec PyProof.Rows L2
def mkD (n : Str) (i : Nat) : He.DefD := ⟨(n, none), n, n, defArgs (top i), defBody (top i), defScope (top i), [], []⟩
def fn0 : List He.DefD := [mkD "is_number" 4, mkD "is_within" 5, mkD "is_long" 6, mkD "tupled" 7, mkD "ascends" 8, mkD "set_of" 9, mkD "are_numbers" 10, mkD "is_set_below" 11, mkD "is_plan" 14, mkD "is_row" 15, mkD "is_lot" 16, mkD "sure_lot" 17, mkD "sure_places" 18, mkD "plan_turned" 19, mkD "is_houses_of" 22, mkD "sure_houses" 23, mkD "turned_houses" 24, mkD "bag_by" 26, mkD "turned_table" 28, mkD "leaving_row" 29, mkD "risen" 30, mkD "entering" 31, mkD "put_out" 32, mkD "solved" 33, mkD "sure_lots" 37, mkD "sure_dealt" 38, mkD "is_supply_of" 39, mkD "sure_supply" 40, mkD "deals_of" 41, mkD "weighed" 42]
def fn1 : List He.DefD := [mkD "deal_by" 43, mkD "supplies_by" 44, mkD "sums" 45, mkD "deals" 46, mkD "deal_paper" 47, mkD "barred_supply" 48, mkD "all_dealt" 49, mkD "_law_box" 51, mkD "_law_take" 52, mkD "_law_cells" 53, mkD "_law_of" 54, mkD "_law_pick" 55, mkD "_law_lists" 56, mkD "_law_same" 57, mkD "_law_set" 58, mkD "_law_plan" 59, mkD "_law_every" 60, mkD "_law_turn" 61, mkD "_law_box_by" 62, mkD "_law_drawn_parts" 63, mkD "_law_lot" 64, mkD "_law_rows_to" 65, mkD "law" 66]
def fn : List He.DefD := fn0 ++ fn1
def fa0 : List He.Fa := [.glo "is_number", .glo "is_within", .glo "is_long", .glo "tupled", .glo "ascends", .glo "set_of", .glo "are_numbers", .glo "is_set_below", .glo "is_plan", .glo "is_row", .glo "is_lot", .glo "sure_lot", .glo "sure_places", .glo "plan_turned", .glo "is_houses_of", .glo "sure_houses", .glo "turned_houses", .glo "bag_by", .glo "turned_table", .glo "leaving_row", .glo "risen", .glo "entering", .glo "put_out", .glo "solved", .glo "sure_lots", .glo "sure_dealt", .glo "is_supply_of", .glo "sure_supply", .glo "deals_of", .glo "weighed"]
def fa1 : List He.Fa := [.glo "deal_by", .glo "supplies_by", .glo "sums", .glo "deals", .glo "deal_paper", .glo "barred_supply", .glo "all_dealt", .glo "_law_box", .glo "_law_take", .glo "_law_cells", .glo "_law_of", .glo "_law_pick", .glo "_law_lists", .glo "_law_same", .glo "_law_set", .glo "_law_plan", .glo "_law_every", .glo "_law_turn", .glo "_law_box_by", .glo "_law_drawn_parts", .glo "_law_lot", .glo "_law_rows_to", .glo "law"]
def faI : List He.Fa := [.int "LONGEST" 40, .int "MOST_HOUSES" 4, .int "DEALT_PLANS" 24, .int "DEALT_PLACES" 5]
def faF : List He.Fa := [.free "abs", .free "all", .free "bool", .free "enumerate", .free "int", .free "isinstance", .free "len", .free "list", .free "min", .free "range", .free "set", .free "sorted", .free "str", .free "sum", .free "tuple", .free "zip"]
def fa : List He.Fa := fa0 ++ fa1 ++ faI ++ faF
abbrev hk : PySem.W.Hook := He.hookD 4 fa fn
theorem defIn {K : PySem.W.Frag} {h : Heap} {mg : Str → Option Value} (X : K.In h) (G : h.Ns mainGlobals mg) (c : He.SaysD fa fn K) (i : Nat) (n : Str) (j : Nat) (h1 : fn[i]? = some (mkD n j)) (h2 : fa[i]? = some (.glo n)) : DefIn K mg n (top j) := by
  obtain ⟨fd, F⟩ := c.def_ i h1
  exact ⟨_, fd, F, He.glo_ok X G (c.fact i h2)⟩
theorem bn {K : PySem.W.Frag} {h : Heap} {mg : Str → Option Value} (X : K.In h) (G : h.Ns mainGlobals mg) (c : He.SaysD fa fn K) : Bn mg := by
  refine ⟨He.free_ok X G (c.fact 57 (f := .free "abs") rfl), He.free_ok X G (c.fact 58 (f := .free "all") rfl), He.free_ok X G (c.fact 59 (f := .free "bool") rfl), He.free_ok X G (c.fact 60 (f := .free "enumerate") rfl), He.free_ok X G (c.fact 61 (f := .free "int") rfl), He.free_ok X G (c.fact 62 (f := .free "isinstance") rfl), He.free_ok X G (c.fact 63 (f := .free "len") rfl), He.free_ok X G (c.fact 64 (f := .free "list") rfl), He.free_ok X G (c.fact 65 (f := .free "min") rfl), He.free_ok X G (c.fact 66 (f := .free "range") rfl), He.free_ok X G (c.fact 67 (f := .free "set") rfl), He.free_ok X G (c.fact 68 (f := .free "sorted") rfl), He.free_ok X G (c.fact 69 (f := .free "str") rfl), He.free_ok X G (c.fact 70 (f := .free "sum") rfl), He.free_ok X G (c.fact 71 (f := .free "tuple") rfl), He.free_ok X G (c.fact 72 (f := .free "zip") rfl), ?_, ?_, ?_, ?_⟩
  · obtain ⟨t, e⟩ := He.int_ok X G (c.fact 53 (f := .int "LONGEST" 40) rfl)
    exact ⟨_, e, t, rfl⟩
  · obtain ⟨t, e⟩ := He.int_ok X G (c.fact 54 (f := .int "MOST_HOUSES" 4) rfl)
    exact ⟨_, e, t, rfl⟩
  · obtain ⟨t, e⟩ := He.int_ok X G (c.fact 55 (f := .int "DEALT_PLANS" 24) rfl)
    exact ⟨_, e, t, rfl⟩
  · obtain ⟨t, e⟩ := He.int_ok X G (c.fact 56 (f := .int "DEALT_PLACES" 5) rfl)
    exact ⟨_, e, t, rfl⟩
theorem facts {P : Program} {w : World} {K : PySem.W.Frag} {h : Heap} {mg : Str → Option Value} {f : Addr} (X : K.In h) (G : h.Ns mainGlobals mg) (hfa : mg ("law" : Str) = some (.ref f)) (c : He.SaysD fa fn K) :
    ∃ fd : FuncData, (∀ (s : Shared) (v : Value), BindsTo s fd ⟨[v], []⟩ [("script", v)]) ∧ ∀ base : Heap, K.In base → base.Ns mainGlobals mg → FnOk P w K mg base CX0 11 f fd ["script"] (SpLaw K) := by
  obtain ⟨fd, F⟩ := c.def_ 52 (d := mkD "law" 66) rfl
  have e := hfa.symm.trans (He.glo_ok X G (c.fact 52 (f := .glo "law") rfl))
  cases e
  have b := FunD.bindsA (ps := ["script"]) F fun _ _ _ _ _ _ us hl => match us, hl with | [_], _ => rfl
  refine ⟨fd, fun s v => b s [v] rfl, fun base _ _ => ?_⟩
  have B := bn X G c
  have k__law_box := c__law_box2 (P := P) (w := w) (base := base) B (defIn X G c 37 "_law_box" 51 rfl rfl)
  have k__law_cells := c__law_cells (P := P) (w := w) (base := base) B (defIn X G c 39 "_law_cells" 53 rfl rfl)
  have k__law_plan := c__law_plan (P := P) (w := w) (base := base) B (defIn X G c 45 "_law_plan" 59 rfl rfl)
  have k__law_every := c__law_every (P := P) (w := w) (base := base) B (defIn X G c 46 "_law_every" 60 rfl rfl) k__law_plan
  have k__law_lists := c__law_lists (P := P) (w := w) (base := base) B (defIn X G c 42 "_law_lists" 56 rfl rfl)
  have k__law_turn := c__law_turn (P := P) (w := w) (base := base) B (defIn X G c 47 "_law_turn" 61 rfl rfl)
  have k__law_box_by := c__law_box_by (P := P) (w := w) (base := base) B (defIn X G c 48 "_law_box_by" 62 rfl rfl) k__law_turn
  have k__law_take := c__law_take (P := P) (w := w) (base := base) B (defIn X G c 38 "_law_take" 52 rfl rfl)
  have k__law_pick := c__law_pick (P := P) (w := w) (base := base) B (defIn X G c 41 "_law_pick" 55 rfl rfl) k__law_take
  have k__law_drawn_parts := c__law_drawn_parts (P := P) (w := w) (base := base) B (defIn X G c 49 "_law_drawn_parts" 63 rfl rfl) k__law_pick k__law_take
  have k__law_of := c__law_of (P := P) (w := w) (base := base) B (defIn X G c 40 "_law_of" 54 rfl rfl) k__law_take
  have k__law_lot := c__law_lot (P := P) (w := w) (base := base) B (defIn X G c 50 "_law_lot" 64 rfl rfl) k__law_box_by k__law_drawn_parts k__law_every k__law_of k__law_pick k__law_take k__law_turn
  have k__law_rows_to := c__law_rows_to (P := P) (w := w) (base := base) B (defIn X G c 51 "_law_rows_to" 65 rfl rfl)
  have k__law_same := c__law_same (P := P) (w := w) (base := base) B (defIn X G c 43 "_law_same" 57 rfl rfl)
  have k__law_set := c__law_set (P := P) (w := w) (base := base) B (defIn X G c 44 "_law_set" 58 rfl rfl)
  have k_deals_of := c_deals_of (P := P) (w := w) (base := base) B (defIn X G c 28 "deals_of" 41 rfl rfl)
  have k_turned_table := c_turned_table (P := P) (w := w) (base := base) B (defIn X G c 18 "turned_table" 28 rfl rfl)
  have k_put_out := c_put_out (P := P) (w := w) (base := base) B (defIn X G c 22 "put_out" 32 rfl rfl) k_turned_table
  have k_entering := c_entering (P := P) (w := w) (base := base) B (defIn X G c 21 "entering" 31 rfl rfl)
  have k_leaving_row := c_leaving_row (P := P) (w := w) (base := base) B (defIn X G c 19 "leaving_row" 29 rfl rfl)
  have k_risen := c_risen (P := P) (w := w) (base := base) B (defIn X G c 20 "risen" 30 rfl rfl) k_entering k_leaving_row k_turned_table
  have k_solved := c_solved (P := P) (w := w) (base := base) B (defIn X G c 23 "solved" 33 rfl rfl) k_put_out k_risen
  have k_weighed := c_weighed (P := P) (w := w) (base := base) B (defIn X G c 29 "weighed" 42 rfl rfl) k_solved
  have k_supplies_by := c_supplies_by (P := P) (w := w) (base := base) B (defIn X G c 31 "supplies_by" 44 rfl rfl) k_weighed
  have k_sure_dealt := c_sure_dealt (P := P) (w := w) (base := base) B (defIn X G c 25 "sure_dealt" 38 rfl rfl)
  have k_ascends := c_ascends (P := P) (w := w) (base := base) B (defIn X G c 4 "ascends" 8 rfl rfl)
  have k_is_number := c_is_number (P := P) (w := w) (base := base) B (defIn X G c 0 "is_number" 4 rfl rfl)
  have k_is_within := c_is_within (P := P) (w := w) (base := base) B (defIn X G c 1 "is_within" 5 rfl rfl) k_is_number
  have k_is_plan := c_is_plan (P := P) (w := w) (base := base) B (defIn X G c 8 "is_plan" 14 rfl rfl) k_is_within
  have k_is_row := c_is_row (P := P) (w := w) (base := base) B (defIn X G c 9 "is_row" 15 rfl rfl) k_is_plan
  have k_is_lot := c_is_lot (P := P) (w := w) (base := base) B (defIn X G c 10 "is_lot" 16 rfl rfl) k_ascends k_is_row
  have k_tupled := c_tupled (P := P) (w := w) (base := base) B (defIn X G c 3 "tupled" 7 rfl rfl)
  have k_sure_lot := c_sure_lot (P := P) (w := w) (base := base) B (defIn X G c 11 "sure_lot" 17 rfl rfl) k_is_lot k_tupled
  have k_sure_lots := c_sure_lots (P := P) (w := w) (base := base) B (defIn X G c 24 "sure_lots" 37 rfl rfl) k_sure_lot
  have k_barred_supply := c_barred_supply (P := P) (w := w) (base := base) B (defIn X G c 35 "barred_supply" 48 rfl rfl) k_deals_of k_supplies_by k_sure_dealt k_sure_lots
  have k_all_dealt := c_all_dealt (P := P) (w := w) (base := base) B (defIn X G c 36 "all_dealt" 49 rfl rfl) k_barred_supply
  have k_bag_by := c_bag_by (P := P) (w := w) (base := base) B (defIn X G c 17 "bag_by" 26 rfl rfl)
  have k_deal_by := c_deal_by (P := P) (w := w) (base := base) B (defIn X G c 30 "deal_by" 43 rfl rfl) k_bag_by k_deals_of k_weighed
  have k_is_long := c_is_long (P := P) (w := w) (base := base) B (defIn X G c 2 "is_long" 6 rfl rfl)
  have k_is_supply_of := c_is_supply_of (P := P) (w := w) (base := base) B (defIn X G c 26 "is_supply_of" 39 rfl rfl) k_is_long k_is_within
  have k_sure_supply := c_sure_supply (P := P) (w := w) (base := base) B (defIn X G c 27 "sure_supply" 40 rfl rfl) k_is_supply_of k_tupled
  have k_deal_paper := c_deal_paper (P := P) (w := w) (base := base) B (defIn X G c 34 "deal_paper" 47 rfl rfl) k_deal_by k_sure_dealt k_sure_lots k_sure_supply
  have k_deals := c_deals (P := P) (w := w) (base := base) B (defIn X G c 33 "deals" 46 rfl rfl) k_deals_of k_sure_lots k_sure_supply
  have k_set_of := c_set_of (P := P) (w := w) (base := base) B (defIn X G c 5 "set_of" 9 rfl rfl)
  have k_sums := c_sums (P := P) (w := w) (base := base) B (defIn X G c 32 "sums" 45 rfl rfl) k_set_of k_sure_lots
  have k_plan_turned := c_plan_turned (P := P) (w := w) (base := base) B (defIn X G c 13 "plan_turned" 19 rfl rfl)
  have k_is_houses_of := c_is_houses_of (P := P) (w := w) (base := base) B (defIn X G c 14 "is_houses_of" 22 rfl rfl) k_is_lot
  have k_sure_houses := c_sure_houses (P := P) (w := w) (base := base) B (defIn X G c 15 "sure_houses" 23 rfl rfl) k_is_houses_of k_tupled
  have k_are_numbers := c_are_numbers (P := P) (w := w) (base := base) B (defIn X G c 6 "are_numbers" 10 rfl rfl) k_is_number
  have k_is_set_below := c_is_set_below (P := P) (w := w) (base := base) B (defIn X G c 7 "is_set_below" 11 rfl rfl) k_are_numbers k_ascends
  have k_sure_places := c_sure_places (P := P) (w := w) (base := base) B (defIn X G c 12 "sure_places" 18 rfl rfl) k_is_set_below k_tupled
  have k_turned_houses := c_turned_houses (P := P) (w := w) (base := base) B (defIn X G c 16 "turned_houses" 24 rfl rfl) k_plan_turned k_sure_houses k_sure_places
  exact c_law B k__law_box k__law_cells k__law_every k__law_lists k__law_lot k__law_of k__law_pick k__law_rows_to k__law_same k__law_set k__law_take k_all_dealt k_barred_supply k_deal_paper k_deals k_sums k_turned_houses F
end Sp

set_option Elab.async false
set_option linter.all false
set_option maxRecDepth 100000
set_option maxHeartbeats 4000000
open PySem PySem.W PySem.Calls PyProof.Rows
theorem PySem.Challenge.cw_splitprices_k87_across_barred_supplies_holds : PySem.Challenge.rw_splitprices_k87_across_barred_supplies.Holds := by
  w_on; o_law
  o_head Sp.hk
  case hw => w_witness2
  case hc =>
    refine L2.walk_ofE (l := PySem.Challenge.rw_splitprices_k87_across_barred_supplies) (n := 63) (k := 11) (x := "script") (CX := L2.CX0) rfl (by decide) (by kernel_rfl) ⟨rfl, by decide, by decide⟩ ?F (fun _ _ _ _ z => z)
    intro w mg fa h Y G hmg0
    obtain ⟨K, KX, c⟩ := Y
    have hmg : mg ("law" : PySem.Str) = some (.ref fa) := hmg0
    obtain ⟨fd, hb, hF⟩ := Sp.facts (P := (PySem.Challenge.rw_splitprices_k87_across_barred_supplies).prog) (w := w) KX G hmg c
    exact ⟨K, fd, Sp.SpLaw K, KX, hb, fun H a ns hl _ hS => ⟨a, ns, rfl, hS, fun _ => rfl⟩, hF⟩

