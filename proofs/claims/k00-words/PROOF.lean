import PyProof.Rows.All
import Wide.All
import OpenK.AllK
import Wide.FinOn
import HandS.ForMost
import HandS.ForExc
import HandS.Flow
import HandS.Wide
import HandS.IsInst
import HandS.ExcInit
import HandS.ExcField
import HandS.ExcIs
import HandS.Deep
import HandS.TupAny
import HandS.Walk
import HandS.Evl
import HandS.FStr
import PySem.Challenge.RW_nowhereleft_k00_words_and_their_places
set_option Elab.async false
set_option maxRecDepth 100000
set_option maxHeartbeats 4000000
set_option linter.all false
namespace NL
open PySem L2

/-! steps of a reading -/
theorem and_r {A B : Prop} (a : A) (b : B) : A ∧ B := ⟨a, b⟩
theorem if_c {c : Bool} {A B : Prop} (h1 : c = true → A) (h2 : c = false → B) : if c = true then A else B := by
  cases c with
  | true => exact h1 rfl
  | false => exact h2 rfl
theorem if_d {p : Prop} [Decidable p] {A B : Prop} (h1 : p → A) (h2 : ¬ p → B) : if decide p = true then A else B := by
  by_cases h : p
  · rw [if_pos (decide_eq_true h)]; exact h1 h
  · rw [if_neg (by simpa using h)]; exact h2 h
theorem if_nd {p : Prop} [Decidable p] {A B : Prop} (h1 : ¬ p → A) (h2 : p → B) : if (!decide p) = true then A else B := by
  by_cases h : p
  · rw [if_neg (by simpa using h)]; exact h2 h
  · rw [if_pos (by simpa using h)]; exact h1 h
theorem if_t {c : Bool} {A B : Prop} (hc : c = true) (h : A) : if c = true then A else B := by rw [if_pos hc]; exact h
theorem if_f {c : Bool} {A B : Prop} (hc : c = false) (h : B) : if c = true then A else B := by rw [if_neg (by simp [hc])]; exact h
/-- a while's body: what it is to reach -/
theorem ex_N {m : Nat} {W : Nat → L2.St → Hp → Prop} {B : (L2.St → Hp → Prop) → Prop} (h : ∀ N : L2.St → Hp → Prop, (∀ m' σ' H', m' < m → W m' σ' H' → N σ' H') → B N) :
    ∃ N : L2.St → Hp → Prop, (∀ σ' H', N σ' H' → ∃ m', m' < m ∧ W m' σ' H') ∧ B N :=
  ⟨fun σ' H' => ∃ m', m' < m ∧ W m' σ' H', fun _ _ h => h, h _ fun m' _ _ l w => ⟨m', l, w⟩⟩
def WhTail (c : TT) (tb : TS) (D : Ends) (σ : L2.St) (H : Hp) : Prop := tWhile c tb D σ H
theorem tWhile_def (c : TT) (tb : TS) (D : Ends) (σ : L2.St) (H : Hp) : tWhile c tb D σ H = WhTail c tb D σ H := rfl
theorem wh_by {c : TT} {tb : TS} {D : Ends} {σ : L2.St} {H : Hp} (W : Nat → L2.St → Hp → Prop) (m : Nat) (h0 : W m σ H)
    (hs : ∀ m σ H, W m σ H → c σ H fun b H1 => if b = true then ∃ N : L2.St → Hp → Prop, (∀ σ' H', N σ' H' → ∃ m', m' < m ∧ W m' σ' H') ∧ tb { D with nx := N, ct := N, bk := D.nx } σ H1 else D.nx σ H1) :
    WhTail c tb D σ H := ⟨W, ⟨m, h0⟩, hs⟩
def ForTail (J : It) (g : TG) (tb : TS) (D : Ends) (σ : L2.St) (H1 : Hp) : Prop := ∃ W : Nat → Nat → L2.St → Hp → Prop, (∃ m, W 0 m σ H1) ∧ ∀ i m σ H, W i m σ H →
  (J.stop i H ∧ D.nx σ H) ∨ (J.go i H ∧ ∃ N : L2.St → Hp → Prop, (∀ σ' H', N σ' H' → ∃ m', m' < m ∧ W (i + 1) m' σ' H') ∧ ∀ x H', J.yld i H x H' → g x σ H' fun σ2 H2 => tb { D with nx := N, ct := N, bk := D.nx } σ2 H2)
theorem tFor_def (wi : TI) (g : TG) (tb : TS) (D : Ends) (σ : L2.St) (H : Hp) : tFor wi g tb D σ H = wi σ H fun J H1 => ForTail J g tb D σ H1 := rfl
def LcTail (J : It) (g : TG) (tt : TT) (te : TE) (vs : List Nat) (σ : L2.St) (H1 : Hp) (Q : VK) : Prop := ∀ D, H1 D = none → ∃ W : Nat → Nat → Hp → Prop, (∃ m, W 0 m (upd H1 D (.lst []))) ∧ ∀ i m H, W i m H →
  (J.stop i H ∧ Q (.ref D) H) ∨ (J.go i H ∧ ∃ Nx : Hp → Prop, (∀ H', Nx H' → ∃ m', m' < m ∧ W (i + 1) m' H') ∧ ∀ x H', J.yld i H x H' → g x (wipe σ vs) H' fun σ2 H2 => wipe σ2 vs = wipe σ vs ∧ tt σ2 H2 fun b H3 =>
    if b = true then te σ2 H3 fun y H4 => ∃ acc, H4 D = some (.lst acc) ∧ acc.length < sizeLine ∧ Nx (upd H4 D (.lst (acc ++ [y]))) else Nx H3)
theorem tLc_def (wi : TI) (g : TG) (tt : TT) (te : TE) (vs : List Nat) (σ : L2.St) (H : Hp) (Q : VK) : tLc wi g tt te vs σ H Q = wi σ H fun J H1 => LcTail J g tt te vs σ H1 Q := rfl
section
variable {J : It} {n : Nat} {G : Hp → Prop} {Y : Nat → Hp → V → Hp → Prop} {g : TG} {tb : TS} {D : Ends} {σ : L2.St} {H : Hp} {K : PySem.W.Frag}
theorem for_N (w : Walk J n G Y) (Pv : Nat → L2.St → Hp → Prop) (h0 : Pv 0 σ H) (hG : ∀ i σ H, i ≤ n → Pv i σ H → G H)
    (hs : ∀ i x σ H H' N, i < n → Pv i σ H → Y i H x H' → (∀ σ' H', Pv (i + 1) σ' H' → N σ' H') → g x σ H' fun σ2 H2 => tb { D with nx := N, ct := N, bk := D.nx } σ2 H2) (hd : ∀ σ H, Pv n σ H → D.nx σ H) :
    ForTail J g tb D σ H := for_it w Pv h0 hG (fun i x σ H H' a b c => hs i x σ H H' (Pv (i + 1)) a b c fun _ _ h => h) hd
theorem for_l {a : Addr} {xs : List V} (Pv : Nat → L2.St → Hp → Prop) (h0 : Pv 0 σ H) (hl : ∀ i σ H, i ≤ xs.length → Pv i σ H → SqL K H a xs)
    (hs : ∀ i x σ H N, xs[i]? = some x → Pv i σ H → (∀ σ' H', Pv (i + 1) σ' H' → N σ' H') → g x σ H fun σ2 H2 => tb { D with nx := N, ct := N, bk := D.nx } σ2 H2) (hd : ∀ σ H, Pv xs.length σ H → D.nx σ H) :
    ForTail (Itl K a) g tb D σ H := for_N walk_list Pv h0 hl (fun i x σ H H' N _ p y hN => by obtain ⟨rfl, e⟩ := y; exact hs i x σ _ N e p hN) hd
theorem for_r {lo : Int} {n : Nat} (Pv : Nat → L2.St → Hp → Prop) (h0 : Pv 0 σ H)
    (hs : ∀ i σ H N, i < n → Pv i σ H → (∀ σ' H', Pv (i + 1) σ' H' → N σ' H') → g (.int (lo + i)) σ H fun σ2 H2 => tb { D with nx := N, ct := N, bk := D.nx } σ2 H2) (hd : ∀ σ H, Pv n σ H → D.nx σ H) :
    ForTail (Itr lo n) g tb D σ H := for_N walk_range Pv h0 (fun _ _ _ _ _ => trivial) (fun i x σ H H' N hi p y hN => by obtain ⟨rfl, rfl⟩ := y; exact hs i σ _ N hi p hN) hd
theorem for_s {z : Str} (Pv : Nat → L2.St → Hp → Prop) (h0 : Pv 0 σ H)
    (hs : ∀ i (c : Nat) σ H N, z.cps.toList[i]? = some c → Pv i σ H → (∀ σ' H', Pv (i + 1) σ' H' → N σ' H') → g (.str ⟨#[c]⟩) σ H fun σ2 H2 => tb { D with nx := N, ct := N, bk := D.nx } σ2 H2) (hd : ∀ σ H, Pv z.cps.toList.length σ H → D.nx σ H) :
    ForTail (Its z) g tb D σ H := for_N walk_str Pv h0 (fun _ _ _ _ _ => trivial) (fun i x σ H H' N hi p y hN => by
      obtain ⟨rfl, c, e, rfl⟩ := y
      exact hs i c σ _ N (by rw [Array.getElem?_toList]; exact e) p hN) (fun σ H p => hd σ H (by rw [Array.length_toList]; exact p))
variable {tt : TT} {te : TE} {vs : List Nat} {Q : VK}
theorem lc_N (w : Walk J n G Y) (Pv : Addr → Nat → Hp → Prop) (h0 : ∀ D, H D = none → Pv D 0 (upd H D (.lst []))) (hG : ∀ D i H, i ≤ n → Pv D i H → G H)
    (hs : ∀ D i x H' H'' (N : Hp → Prop), H D = none → i < n → Pv D i H' → Y i H' x H'' → (∀ H, Pv D (i + 1) H → N H) → g x (wipe σ vs) H'' fun σ2 H2 => wipe σ2 vs = wipe σ vs ∧ tt σ2 H2 fun b H3 =>
      if b = true then te σ2 H3 fun y H4 => ∃ acc, H4 D = some (.lst acc) ∧ acc.length < sizeLine ∧ N (upd H4 D (.lst (acc ++ [y]))) else N H3) (hd : ∀ D H', H D = none → Pv D n H' → Q (.ref D) H') :
    LcTail J g tt te vs σ H Q := fun D hD => lc_it w (Pv D) (h0 D hD) (hG D) (fun i x H' H'' a b c => hs D i x H' H'' (Pv D (i + 1)) hD a b c fun _ h => h) (fun H' h => hd D H' hD h)
theorem lc_l {a : Addr} {xs : List V} (Pv : Addr → Nat → Hp → Prop) (h0 : ∀ D, H D = none → Pv D 0 (upd H D (.lst []))) (hl : ∀ D i H, i ≤ xs.length → Pv D i H → SqL K H a xs)
    (hs : ∀ D i x H' (N : Hp → Prop), H D = none → xs[i]? = some x → Pv D i H' → (∀ H, Pv D (i + 1) H → N H) → g x (wipe σ vs) H' fun σ2 H2 => wipe σ2 vs = wipe σ vs ∧ tt σ2 H2 fun b H3 =>
      if b = true then te σ2 H3 fun y H4 => ∃ acc, H4 D = some (.lst acc) ∧ acc.length < sizeLine ∧ N (upd H4 D (.lst (acc ++ [y]))) else N H3) (hd : ∀ D H', H D = none → Pv D xs.length H' → Q (.ref D) H') :
    LcTail (Itl K a) g tt te vs σ H Q := lc_N walk_list Pv h0 hl (fun D i x H' H'' N hD _ p y hN => by obtain ⟨rfl, e⟩ := y; exact hs D i x _ N hD e p hN) hd
theorem lc_r {lo : Int} {n : Nat} (Pv : Addr → Nat → Hp → Prop) (h0 : ∀ D, H D = none → Pv D 0 (upd H D (.lst [])))
    (hs : ∀ D i H' (N : Hp → Prop), H D = none → i < n → Pv D i H' → (∀ H, Pv D (i + 1) H → N H) → g (.int (lo + (i : Nat))) (wipe σ vs) H' fun σ2 H2 => wipe σ2 vs = wipe σ vs ∧ tt σ2 H2 fun b H3 =>
      if b = true then te σ2 H3 fun y H4 => ∃ acc, H4 D = some (.lst acc) ∧ acc.length < sizeLine ∧ N (upd H4 D (.lst (acc ++ [y]))) else N H3) (hd : ∀ D H', H D = none → Pv D n H' → Q (.ref D) H') :
    LcTail (Itr lo n) g tt te vs σ H Q := lc_N walk_range Pv h0 (fun _ _ _ _ _ => trivial) (fun D i x H' H'' N hD hi p y hN => by obtain ⟨rfl, rfl⟩ := y; exact hs D i _ N hD hi p hN) hd
theorem lc_s {z : Str} (Pv : Addr → Nat → Hp → Prop) (h0 : ∀ D, H D = none → Pv D 0 (upd H D (.lst [])))
    (hs : ∀ D i (c : Nat) H' (N : Hp → Prop), H D = none → z.cps.toList[i]? = some c → Pv D i H' → (∀ H, Pv D (i + 1) H → N H) → g (.str ⟨#[c]⟩) (wipe σ vs) H' fun σ2 H2 => wipe σ2 vs = wipe σ vs ∧ tt σ2 H2 fun b H3 =>
      if b = true then te σ2 H3 fun y H4 => ∃ acc, H4 D = some (.lst acc) ∧ acc.length < sizeLine ∧ N (upd H4 D (.lst (acc ++ [y]))) else N H3) (hd : ∀ D H', H D = none → Pv D z.cps.toList.length H' → Q (.ref D) H') :
    LcTail (Its z) g tt te vs σ H Q := lc_N walk_str Pv h0 (fun _ _ _ _ _ => trivial) (fun D i x H' H'' N hD hi p y hN => by
      obtain ⟨rfl, c, e, rfl⟩ := y
      exact hs D i c _ N hD (by rw [Array.getElem?_toList]; exact e) p hN) (fun D H' hD p => hd D H' hD (by rw [Array.length_toList]; exact p))
end

theorem ite_ff {α : Sort _} (a b : α) : (if false = true then a else b) = b := rfl
theorem ite_tt {α : Sort _} (a b : α) : (if true = true then a else b) = a := rfl
/-! texts as lists of signs -/
def mkS (r : List Nat) : Str := ⟨r.toArray⟩
theorem mkS_eta (x : Str) : mkS x.cps.toList = x := rfl
theorem mkS_list (r : List Nat) : (mkS r).cps.toList = r := rfl
theorem mkS_len (r : List Nat) : (mkS r).length = r.length := rfl
theorem mkS_inj {r q : List Nat} (h : mkS r = mkS q) : r = q := by rw [← mkS_list r, h]; rfl
theorem atI_getD {xs : List Nat} {k : Nat} (h : k < xs.length) : atI xs (k : Int) = some (xs.getD k 0) :=
  atI_nat (by rw [List.getElem?_eq_getElem h, List.getD_eq_getElem?_getD, List.getElem?_eq_getElem h]; rfl)
theorem atI_int {α : Type} {xs : List α} {k : Nat} {v : α} (h : xs[k]? = some v) : atI xs (k : Int) = some v := atI_nat h
theorem mkS_app (r q : List Nat) : mkS r ++ mkS q = mkS (r ++ q) := by
  show (⟨r.toArray ++ q.toArray⟩ : Str) = ⟨(r ++ q).toArray⟩
  rw [List.append_toArray]
theorem cut_some (r : List Nat) (a b : Nat) : cutS (mkS r) (some (a : Int)) (some (b : Int)) = mkS ((r.drop a).take (b - a)) := by
  unfold cutS
  rw [HT.sIx_nat, HT.sIx_nat, mkS_list, mkS_len]
  show mkS _ = mkS _
  congr 1
  by_cases ha : a ≤ r.length
  · rw [Nat.min_eq_left ha]
    by_cases hb : b ≤ r.length
    · rw [Nat.min_eq_left hb]
    · rw [Nat.min_eq_right (by omega), List.take_of_length_le (by simp), List.take_of_length_le (by simp; omega)]
  · rw [Nat.min_eq_right (by omega : r.length ≤ a), List.drop_eq_nil_of_le (Nat.le_refl _), List.drop_eq_nil_of_le (by omega : r.length ≤ a)]
    simp
theorem cut_two (r : List Nat) (j : Nat) : cutS (mkS r) (some (j : Int)) (some ((j : Int) + 2)) = mkS ((r.drop j).take 2) := by
  have h := cut_some r j (j + 2)
  rw [show ((j + 2 : Nat) : Int) = (j : Int) + 2 from rfl, Nat.add_sub_cancel_left] at h
  exact h
theorem cut_to (r : List Nat) (b : Nat) : cutS (mkS r) none (some (b : Int)) = mkS (r.take b) := by
  unfold cutS
  rw [HT.sIx_nat, HT.sIx_none, mkS_list, mkS_len]
  show mkS _ = mkS _
  congr 1
  by_cases hb : b ≤ r.length
  · rw [Nat.min_eq_left hb]; simp
  · rw [Nat.min_eq_right (by omega), List.take_of_length_le (by simp), List.take_of_length_le (by omega)]; simp

section
variable {X : Cx} {x : Str} {pos : Pos}
theorem pe_gstr {z : Str} {t : Tok} (hg : Gl X x) (hm : X.mg x = some (.str z t)) (hd : (x == ("__debug__" : Str)) = false := by decide) : PE X (.Name x pos) (tC (.str z)) := pe_glob hg hm ⟨_, rfl⟩ hd
theorem pe_gint {z : Int} {t : Tok} (hg : Gl X x) (hm : X.mg x = some (.int z t)) (hd : (x == ("__debug__" : Str)) = false := by decide) : PE X (.Name x pos) (tC (.int z)) := pe_glob hg hm ⟨_, rfl⟩ hd
theorem pe_gref {z : Addr} (hg : Gl X x) (hm : X.mg x = some (.ref z)) (hd : (x == ("__debug__" : Str)) = false := by decide) : PE X (.Name x pos) (tC (.ref z)) := pe_glob hg hm rfl hd
theorem pe_gty {z : String} (hg : Gl X x) (hm : X.mg x = none) (hv : bootBuiltins x = some (.type z)) (hn : x ≠ "__name__" := by decide) (hd : (x == ("__debug__" : Str)) = false := by decide) : PE X (.Name x pos) (tC (.ty z)) := pe_bltn hg hm hv rfl hn hd
end

/-! trees of data -/
section
variable {K : PySem.W.Frag} {H H' : Hp}
theorem SqL.mono {a : Addr} {xs : List V} (e : Same H H') (h : SqL K H a xs) : SqL K H' a xs := Same.seq e h
theorem SqT.mono {a : Addr} {xs : List V} (e : Same H H') (h : SqT K H a xs) : SqT K H' a xs := by
  rcases h with (h | ⟨o, h⟩) | h
  · exact .inl (.inl (e _ _ h))
  · exact .inl (.inr ⟨o, e _ _ h⟩)
  · exact .inr h
mutual
theorem Dp.mono' (e : Same H H') : ∀ (d : PyData) (v : V), Dp K H v d → Dp K H' v d
  | .none, _, h => by cases h; exact .non
  | .bool b, _, h => by cases h; exact .bl b
  | .int i, _, h => by cases h; exact .int i
  | .str x, _, h => by cases h; exact .str x
  | .list ds, _, h => by
    cases h with
    | lst q r => exact .lst (SqL.mono e q) (DpAll.mono' e ds _ r)
  | .tuple ds, _, h => by
    cases h with
    | tup q r => exact .tup (SqT.mono e q) (DpAll.mono' e ds _ r)
  | .dict _, _, h => by cases h
theorem DpAll.mono' (e : Same H H') : ∀ (ds : List PyData) (vs : List V), DpAll K H vs ds → DpAll K H' vs ds
  | [], _, h => by cases h; exact .nil
  | d :: ds, _, h => by
    cases h with
    | cons q r => exact .cons (Dp.mono' e d _ q) (DpAll.mono' e ds _ r)
end
theorem Dp.mono {v : V} {d : PyData} (e : Same H H') (h : Dp K H v d) : Dp K H' v d := Dp.mono' e d v h
theorem DpAll.mono {vs : List V} {ds : List PyData} (e : Same H H') (h : DpAll K H vs ds) : DpAll K H' vs ds := DpAll.mono' e ds vs h
theorem DpAll.length {vs : List V} : ∀ {ds : List PyData}, DpAll K H vs ds → vs.length = ds.length := by
  induction vs with
  | nil => intro ds h; cases h; rfl
  | cons v vs ih => intro ds h; cases h with | cons q r => simp [ih r]
theorem DpAll.get {vs : List V} : ∀ {ds : List PyData} {i : Nat} {d : PyData}, DpAll K H vs ds → ds[i]? = some d → ∃ v, vs[i]? = some v ∧ Dp K H v d := by
  induction vs with
  | nil => intro ds i d h e; cases h; simp at e
  | cons v vs ih =>
    intro ds i d h e
    cases h with
    | cons q r =>
      cases i with
      | zero => simp at e; subst e; exact ⟨v, rfl, q⟩
      | succ i => exact ih r (by simpa using e)
theorem DpAll.append {vs us : List V} : ∀ {ds es : List PyData}, DpAll K H vs ds → DpAll K H us es → DpAll K H (vs ++ us) (ds ++ es) := by
  induction vs with
  | nil => intro ds es h k; cases h; exact k
  | cons v vs ih => intro ds es h k; cases h with | cons q r => exact .cons q (ih r k)
theorem DpAll.snoc {vs : List V} {v : V} {ds : List PyData} {d : PyData} (h : DpAll K H vs ds) (k : Dp K H v d) : DpAll K H (vs ++ [v]) (ds ++ [d]) := DpAll.append h (.cons k .nil)
theorem DpAll.strs : ∀ {zs : List Str}, DpAll K H (zs.map V.str) (zs.map PyData.str)
  | [] => .nil
  | _ :: _ => .cons (.str _) DpAll.strs
theorem Same.upd {a : Addr} {o : HO} (h : H a = none) : Same H (upd H a o) := fun b u e => by
  rw [upd_ne (ne_of_none e h)]; exact e
theorem Same.mut {a : Addr} {o : HO} (e : Same H H') (h : H a = none) : Same H (L2.upd H' a o) := fun b u q => by
  rw [upd_ne (ne_of_none q h)]; exact e b u q
end

theorem hu65_of {A : Around} {k : Nat} (hr : Room k A) : A.units + 65 < cLine := by
  have h := hr.un
  omega
/-! a heap H with what stays as it is in it, S -/
structure Ext (S H S' H' : Hp) : Prop where
  hh : Same H H'
  ss : Same S S'
  sub : Same S' H'
  old : ∀ b, H b ≠ none → S' b = S b
section
variable {S H S' H' S1 H1 : Hp} {q p : Addr} {o u : HO} {K : PySem.W.Frag}
theorem Ext.refl (h : Same S H) : Ext S H S H := ⟨Same.refl _, Same.refl _, h, fun _ _ => rfl⟩
theorem Ext.trans (a : Ext S H S1 H1) (b : Ext S1 H1 S' H') : Ext S H S' H' := ⟨a.hh.trans b.hh, a.ss.trans b.ss, b.sub, fun c hc => by
  refine (b.old c ?_).trans (a.old c hc)
  intro z
  cases e : H c with
  | none => exact hc e
  | some o => rw [a.hh c o e] at z; cases z⟩
theorem Same.none_of {A B : Hp} {a : Addr} (h : Same A B) (e : B a = none) : A a = none := h.free e
theorem Ext.new (a : Ext S H S1 H1) (hq : H1 q = none) : Ext S H (upd S1 q o) (upd H1 q o) := a.trans
  ⟨Same.upd hq, Same.upd (Same.none_of a.sub hq), fun b u e => by
    by_cases hb : b = q
    · subst hb; rw [upd_same] at e ⊢; exact e
    · rw [upd_ne hb] at e ⊢; exact a.sub b u e,
   fun b hb => by
    have z : b ≠ q := fun z => hb (by rw [z]; exact hq)
    rw [upd_ne z]⟩
theorem Ext.newH (a : Ext S H S1 H1) (hq : H1 q = none) : Ext S H S1 (upd H1 q o) := ⟨a.hh.trans (Same.upd hq), a.ss, a.sub.trans (Same.upd hq), a.old⟩
theorem Ext.mut (a : Ext S H S1 H1) (h0 : H p = none) (hs : S1 p = none) : Ext S H S1 (upd H1 p o) :=
  ⟨Same.mut a.hh h0, a.ss, Same.mut a.sub hs, a.old⟩
theorem Ext.freeze (a : Ext S H S1 H1) (h0 : H p = none) (hs : S1 p = none) (h1 : H1 p = some o) : Ext S H (upd S1 p o) H1 :=
  ⟨a.hh, a.ss.trans (Same.upd hs), fun b u e => by
    by_cases hb : b = p
    · subst hb; rw [upd_same] at e; cases e; exact h1
    · rw [upd_ne hb] at e; exact a.sub b u e,
   fun b hb => by
    have z : b ≠ p := fun z => hb (by rw [z]; exact h0)
    rw [upd_ne z]; exact a.old b hb⟩
theorem Ext.sH (a : Ext S H S' H') : Same S H' := a.ss.trans a.sub
theorem Ext.none_S (a : Ext S H S' H') (h : S p = none) (hp : H p ≠ none) : S' p = none := (a.old p hp).trans h
end

theorem upd_at {H : Hp} {p q : Addr} {o u : HO} (h1 : H p = some o) (h2 : H q = none) : upd H q u p = some o := (upd_ne (ne_of_none h1 h2)).trans h1
/-- a new tuple appended to the list at p, which is ours -/
theorem snoc_tup {K : PySem.W.Frag} {S H S' H' : Hp} {p q : Addr} {vs xs : List V} {ds es : List PyData} (X : Ext S H S' H') (hp : H p = none) (np : S' p = none) (hat : H' p = some (.lst vs)) (hD : DpAll K S' vs ds) (hq : H' q = none)
    (hx : DpAll K S' xs es) : Ext S H (upd S' q (.tup xs)) (upd (upd H' q (.tup xs)) p (.lst (vs ++ [.ref q]))) ∧ (upd S' q (.tup xs)) p = none ∧
      (upd (upd H' q (.tup xs)) p (.lst (vs ++ [.ref q]))) p = some (.lst (vs ++ [.ref q])) ∧ DpAll K (upd S' q (.tup xs)) (vs ++ [.ref q]) (ds ++ [.tuple es]) := by
  have npq : p ≠ q := ne_of_none hat hq
  have nq : S' q = none := Same.free X.sub hq
  have e : (upd S' q (.tup xs)) p = none := by rw [upd_ne npq]; exact np
  exact ⟨(X.new hq).mut hp e, e, upd_same, DpAll.snoc (DpAll.mono (Same.upd nq) hD) (.tup (SqT.of upd_same) (DpAll.mono (Same.upd nq) hx))⟩
theorem snoc_dp {K : PySem.W.Frag} {S H S' H' : Hp} {p : Addr} {v : V} {vs : List V} {ds : List PyData} {d : PyData} (X : Ext S H S' H') (hp : H p = none) (np : S' p = none) (hD : DpAll K S' vs ds) (hx : Dp K S' v d) :
    Ext S H S' (upd H' p (.lst (vs ++ [v]))) ∧ S' p = none ∧ (upd H' p (.lst (vs ++ [v]))) p = some (.lst (vs ++ [v])) ∧ DpAll K S' (vs ++ [v]) (ds ++ [d]) :=
  ⟨X.mut hp np, np, upd_same, DpAll.snoc hD hx⟩

/-- xs[i], i not below nought, read ahead of a store -/
def rIxP (K : PySem.W.Frag) : V → V → Hp → VK → Prop := fun x y H Q => ∃ p xs i v, x = .ref p ∧ y = .int i ∧ 0 ≤ i ∧ SqL K H p xs ∧ atI xs i = some v ∧ Q v H
theorem get_list {X : Cx} : PGet X (rIxP X.K) := by
  intro pins s σ H o i ov iv Q I rx ry h
  obtain ⟨p, xs, i, z, rfl, rfl, h0, hq, he, q⟩ := h
  cases rx
  obtain ⟨t, rfl⟩ := ry
  obtain ⟨its, r, pl, hz⟩ := I.list hq
  obtain ⟨j, h1, h2, h3, h4, h5⟩ := atI_get he
  obtain ⟨u, ew, ru⟩ := r.get h2
  have hj : i.toNat = j := by
    rw [seqIndex_of h0 h5] at h1
    exact Option.some.inj h1
  have hn := line63
  exact wpAny_getItem_list pl.isList h0 (by omega) (by rw [hj]; simpa using ew) ⟨z, H, I, ru, q⟩

theorem upd_get {H : Hp} {p q : Addr} {o u : HO} (h : p ≠ q) (h1 : H q = some o) : upd H p u q = some o := (upd_ne (Ne.symm h)).trans h1
end NL
namespace PySem.W
open PySem PySem.Spec PySem.Calls PyProof.Rows
section
variable {prog : Program} {w : World} {A : Around} {E : Value → Shared → Prop} {s : Shared} {K : Frag} {x D : Addr} {ox : Obj}
theorem nl_bound {C : Addr} {od : Option Obj} {name : Str} {a g : Value} (hc : (clsIn K C).isSome = true) (ha : findIn K (.ref C) name = some (some a)) (hg : specialIn K a "__get__" = some (some g)) (ht : takesIn K a = some true) :
    findObj K C od name = some (.bind g a) := by
  obtain ⟨cd, hc⟩ := Option.isSome_iff_exists.mp hc
  unfold findObj
  rw [hc, Option.bind_some, ha]
  simp [hg, ht]
/-- what a class of errors must say -/
structure _root_.NL.ExcX (K : Frag) (D : Addr) : Prop where
  hg : findIn K (.ref D) "__getattribute__" = some (some (.builtin "BaseException.__getattribute__"))
  hk : findIn K (.ref D) "__getattr__" = some none
  hs : subIn K (.ref D) (.type "BaseException") = some true
  hd : hasDictIn K D = true
  ha : findIn K (.ref D) "__class__" = some (some (.builtin "object.__class__"))
  hn : specialIn K (.builtin "object.__class__") "__get__" = some (some (.builtin "getset_descriptor.__get__"))
  ht : takesIn K (.builtin "object.__class__") = some true
  hm : mroIn K D (.type "object") = some true
theorem nl_cls {od : Option Obj} {Q : Option Value → Shared → Prop} (Z : NL.ExcX K D) (X : K.In s.heap) (I : InstAt s.heap x ox D od) (h : Q (some (.ref D)) { s with toks := s.toks + 1 }) :
    wpAny (model prog w) A (getAttr? (.ref x) "__class__") Q E s := by
  have hf : findObj K D od "__class__" = some (.bind (.builtin "getset_descriptor.__get__") (.builtin "object.__class__")) := nl_bound (by obtain ⟨cd, hc, _⟩ := any_some Z.hd; rw [hc]; rfl) Z.ha Z.hn Z.ht
  obtain ⟨hp, g, d, t, os⟩ := s
  have T0 := I.type (M := model prog w)
  have T1 := looks_findIn (M := model prog w) X Z.hg
  have T2 := looks_findIn (M := model prog w) X Z.hk
  have T3 := looks_find (M := model prog w) X I hf
  have sb : Looks (model prog w) hp (isInstance (.ref x) (.type "BaseException")) true := T0.andThen (looks_subIn X Z.hs)
  have e2 : (Value.builtin "BaseException.__getattribute__" == Value.builtin "object.__getattribute__") = false := by decide +kernel
  have e1 : (onTheHeap (Value.ref D) && Value.builtin "BaseException.__getattribute__" == Value.builtin "object.__getattribute__") = false := by rw [e2]; rfl
  unfold getAttr? getAttrBy? getAttrBy
  refine wpAny_bind (wpAny_mkText (wpAny_bind (wpAny_attempt (wpAny_holding (wpAny_bind (T0.at (wpAny_bind (T1.at ?_))))))))
  show wpAny _ _ (if (onTheHeap (Value.ref D) && Value.builtin "BaseException.__getattribute__" == Value.builtin "object.__getattribute__") = true then _ else _) _ _ _
  rw [e1, if_neg Bool.false_ne_true]
  unfold getAttrByItsOwn hookBefore
  refine wpAny_bind ?_
  rw [if_pos (show onTheHeap (Value.ref D) = true from rfl)]; refine T2.at ?_
  refine wpAny_bind (wpAny_attempt (wpAny_holding ?_))
  unfold callGetattribute
  rw [show (false && onTheHeap (Value.builtin "BaseException.__getattribute__")) = false from rfl, if_neg Bool.false_ne_true]
  unfold boundAndCalled
  rw [PySem.F.excAttr_ValueError.ga.bind (.ref x)]
  refine wpAny_bind (wpAny_pure (?_ : wpAny _ _ (call (.builtin "BaseException.__getattribute__") [.ref x, .str "__class__" t]) _ _ _))
  refine wpAny_call (codeAny_call_builtin PySem.F.excAttr_ValueError.ga.plain PySem.F.entry_bexc_ga ?_)
  refine @check_slot (model prog w) _ _ ⟨hp, g, d, t + 1, os⟩ "BaseException.__getattribute__" "BaseException" "__getattribute__" (.ref x) [.str "__class__" t] [] _ (by decide +kernel) (by decide +kernel) sb (PySem.F.args_bexc_ga (.ref x) (.str "__class__" t)) ?_
  unfold Builtin.«object.__getattribute__»
  refine wpAny_bind (wpAny_of_eq (a := ((Value.ref x : Value), [Value.str "__class__" t])) (by first | rfl | (simp only [slotArgs]; rfl)) (wpAny_bind (wpAny_pure (wpAny_bind (T0.at (wpAny_bind (T3.at ?_)))))))
  show wpAny _ _ (holding [Value.builtin "object.__class__"] (call (.builtin "getset_descriptor.__get__") [.builtin "object.__class__", .ref x, .ref D]) >>= ret) _ _ _
  refine wpAny_bind (wpAny_holding (wpAny_call (class_get (s := ⟨hp, g, d, t + 1, os⟩) (ox := ox) (od := od) X I Z.hm (wpAny_pure ?_))))
  show wpAny _ _ (handedOut (.ref D)) _ _ _
  rw [handedOut_of (v := .ref D) rfl]
  first
    | exact wpAny_pure (wpAny_pure h)
    | exact wpAny_pure h
    | exact wpAny_pure (wpAny_bind (wpAny_pure (wpAny_pure h)))
theorem nl_kitx {od : Option Obj} (Z : NL.ExcX K D) : KitX K (.ref x) (.ref D) (fun h => InstAt h x ox D od) where
  ty := fun _ _ _ I => I.type
  it := fun _ _ X _ => by
    obtain ⟨cdD, hcD, _⟩ := any_some Z.hd
    unfold clsIn at hcD
    split at hcD
    · rename_i c' d' cd' sl' ho
      intro A' Q' E' s' k q
      unfold isType loadHead
      exact wpAny_bind (wpAny_loadPart (k _ _ (X _ _ ho)) (wpAny_pure q))
    · cases hcD
  ne := fun h tp dd its n sl X htp => by
    obtain ⟨cdD, hcD, _⟩ := any_some Z.hd
    refine Bool.eq_false_iff.mpr fun q => ?_
    have e : D = tp := Value.ref.inj (beq_iff_eq.mp q)
    subst e
    unfold clsIn at hcD
    split at hcD
    · rename_i c' d' cd' sl' ho
      cases (X _ _ ho).symm.trans htp
    · cases hcD
  ca := fun X I k => nl_cls Z X I k
end
end PySem.W
namespace NL
open PySem L2
/-- isinstance(e, c) of the caught error at a, whose own dict stands at d -/
def rIsX (K : PySem.W.Frag) (a : Addr) (cls : Value) (d : Option Addr) : List V → Hp → VK → Prop := fun xs H Q => ∃ (D : Addr) (c : V) (cv : Value) (b : Bool) (dd : Addr) (fs : List (Str × V)),
  cls = .ref D ∧ d = some dd ∧ H dd = some (.xd fs) ∧ ExcX K D ∧ xs = [.ref a, c] ∧ RelV c cv ∧ (∀ u, RelV c u → u = cv) ∧ PySem.W.kitOne K (.ref D) cv = some b ∧ Q (.bl b) H
theorem call_isX {X : Cx} {a : Addr} {oe : Obj} {cls : Value} {d : Option Addr} {pn : List (Addr × Obj)} (hz : Zc cls d oe) (hf : ∃ vs, oe.data = .fields vs) :
    CallR (X.suite a ((a, oe) :: pn)) (.builtin "isinstance") (rIsX X.K a cls d) := by
  intro pins s σ H xs us Q I r h
  obtain ⟨D, c, cv, b, dd, fs, rfl, rfl, hd, Z, rfl, _, hcv, e, q⟩ := h
  cases r with
  | cons rx rr =>
    cases rr with
    | cons rt rr =>
      cases rr
      cases rx
      have ec := hcv _ rt
      subst ec
      obtain ⟨hget, _⟩ := I.pin (a, oe) (List.mem_append.mpr (.inl List.mem_cons_self))
      obtain ⟨vs, hv⟩ := hf
      obtain ⟨mA, hns, _⟩ : ObjOk X.prog X.w H s.heap dd (.xd fs) := I.hok dd _ hd
      obtain ⟨od, ho, _⟩ := lookIn_ns hns
      have J : PySem.W.InstAt s.heap a oe D (some od) := ⟨hget, hz.1, by unfold PySem.W.notCls; rw [hv] <;> rfl, by rw [hz.2]; exact ho⟩
      exact PySem.W.kia_one (PySem.W.nl_kitx Z) I.kIn J e (fun z => nomatch z) fun tk => ⟨.bl b, H, I.kept (t' := tk) fun _ _ z => z, rfl, q⟩
/-- e.f of the caught error -/
def tXfX (K : PySem.W.Frag) (a : Addr) (cls : Value) (d : Option Addr) (f : Str) (te : TE) : TE := fun σ H Q => te σ H fun x H1 => x = .ref a ∧ ∃ (C dd : Addr) (fs : List (Str × V)) (v : V),
  cls = .ref C ∧ ExcX K C ∧ PySem.W.findIn K (.ref C) f = some none ∧ d = some dd ∧ H1 dd = some (.xd fs) ∧ fs.lookup f = some v ∧ Q v H1
theorem pe_xfX {X : Cx} {a : Addr} {oe : Obj} {cls : Value} {d : Option Addr} {pn : List (Addr × Obj)} {e : Expr} {te : TE} {pos : Pos} {n : Str}
    (hz : Zc cls d oe) (hf : ∃ vs, oe.data = .fields vs) (he : PE (X.suite a ((a, oe) :: pn)) e te) (hb : attributeBase e n X.env (eval e X.env) = eval e X.env := by rfl) :
    PE (X.suite a ((a, oe) :: pn)) (.Attribute e n pos) (tXfX X.K a cls d n te) := by
  refine ⟨fun pins s σ H Q I h => ?_⟩
  refine attr_of hb (thn (he.run pins s σ H _ I h) fun u s1 hh => ?_)
  obtain ⟨x, H1, I1, rx, ex, C, dd, fs, v, ec, T, hno, ed, ea, l, q⟩ := hh
  subst ex
  obtain rfl : u = Value.ref a := rx
  subst ec
  subst ed
  obtain ⟨ha, _⟩ := I1.pin (a, oe) (List.mem_append_left _ List.mem_cons_self)
  obtain ⟨vs, hd⟩ := hf
  obtain ⟨mA, hns, hr⟩ : ObjOk X.prog X.w H1 s1.heap dd (.xd fs) := I1.hok dd _ ea
  obtain ⟨od, ho, hl⟩ := lookIn_ns hns
  obtain ⟨u, hu, ru⟩ := RelO.some_of (v := v) (o := mA n) (by rw [← l]; exact hr n)
  have J : PySem.W.InstAt s1.heap a oe C (some od) := ⟨ha, hz.1, by unfold PySem.W.notCls; rw [hd] <;> rfl, by rw [hz.2]; exact ho⟩
  exact HandSPX.exc_get I1.kIn J T.hg T.hk T.hs (PySem.W.findObj_own T.hd hno rfl (by rw [hl, hu])) (handed_of ru) ⟨v, H1, I1.tok _, ru, q⟩

/-- an own error class without an __init__ of its own, whose __init__ is called by a class over it -/
structure OwnI (K : PySem.W.Frag) (mg : Str → Option Value) (x : Str) (C : Addr) : Prop where
  m : mg x = some (.ref C)
  hg : PySem.W.specialIn K (.ref C) "__getattribute__" = some (some (.builtin "type.__getattribute__"))
  hm : PySem.W.typeIn K (.ref C) = some (.type "type")
  hr : PySem.W.readsIn K C (.type "type") = true
  e : PySem.W.findCls K (.ref C) (.type "type") "__init__" = some (.val (.builtin "ValueError.__init__"))
theorem pe_ownInit {X : Cx} {x : Str} {CL : Addr} {e : Expr} {es : List Expr} {ta : TA} {p1 p2 pos : Pos} {pl : Sem Bool} (Z : OwnI X.K X.mg x CL) (ha : PA X (e :: es) ta) (hg : Gl X x := by rfl) (hdb : (x == ("__debug__" : Str)) = false := by decide)
    (hc : eval (.Call (.Attribute (.Name x p1) "__init__" p2) (e :: es) [] pos) X.env = (do
      let ov ← eval (.Name x p1) X.env
      standAt p2.atName
      let (f, first) ← holding [ov] (getMethod ov "__init__" pl)
      callWith pos f first (backTo pos (starEach (e :: es) X.env)) (backToKw pos (keywordEach [] X.env))) := by rfl)
    (he : starEach (e :: es) X.env = (false, eval e X.env) :: starEach es X.env := by rfl) (hpl : (backTo pos (starEach es X.env)).any (·.1) = false := by rfl) :
    PE X (.Call (.Attribute (.Name x p1) "__init__" p2) (e :: es) [] pos) (tVeI X.K ta) := by
  refine ⟨fun pins s σ H Q I h => ?_⟩
  refine PySem.W.methodCall_KW (ld_glob I hg Z.m ?_ hdb) hc
  obtain ⟨m, fr⟩ := I.fr
  refine PySem.W.method_of_cls fr I.ok.mod.kin Z.hg (PySem.W.cls_val fr I.ok.mod.kin Z.hm Z.hr Z.e rfl ?_)
  show wpAny _ _ (callWith pos (Value.builtin "ValueError.__init__") [] (backTo pos (starEach (e :: es) X.env)) []) _ _ _
  refine PyProof.Rows.callWith_method1 (thn (ha.run pos pins _ σ H _ (I.tok _) h) fun us s1 ⟨vs, H1, I1, r1, a, C, ws, ev, hl, T, ea, q⟩ => ?_) he hpl
  subst ev
  cases r1 with
  | @cons _ u0 _ ur ra rw' =>
    obtain rfl : u0 = Value.ref a := ra
    have hlen : ur.length ≤ sizeLine := by
      rw [← Paired.length rw', sizeLine_eq]
      omega
    exact oinit_ok T I1 ea hlen fun s' J => ⟨.non, H1, J, rfl, q⟩

theorem slen_app (a b : Str) : (a ++ b).length = a.length + b.length := Str.length_append a b
theorem slen_empty : Str.empty.length = 0 := rfl
theorem int_len {i : Int} (h : i.natAbs < 10 ^ 9) : (Str.ofString (toString i)).length ≤ 11 := by
  have e := int_text_length_le10 (k := 9) (by decide) h
  rw [ofString_length]; omega
theorem log_ok {i : Int} (h : i.natAbs < 10 ^ 9) : i.natAbs.log2 < 1920 := by
  by_cases h0 : i.natAbs = 0
  · rw [h0]; decide
  · have h1 := Nat.log2_self_le h0
    have h2 : i.natAbs < 2 ^ 1920 := Nat.lt_of_lt_of_le h (by decide)
    exact (Nat.pow_lt_pow_iff_right (by decide : 1 < 2)).mp (Nat.lt_of_le_of_lt h1 h2)
theorem fmt_vs {i : Nat} {z : Str} {σ : L2.St} {H : Hp} {Q : VK} (h : σ[i]? = some (some (.str z))) (hz : z.length ≤ sizeLine) (q : Q (.str z) H) : tFmt (tVar i) σ H Q := ⟨_, h, .inl ⟨z, rfl, hz, q⟩⟩
theorem fmt_vi {i : Nat} {n : Int} {σ : L2.St} {H : Hp} {Q : VK} (h : σ[i]? = some (some (.int n))) (hz : n.natAbs < 10 ^ 9) (q : (Str.ofString (toString n)).length ≤ 11 → Q (.str (Str.ofString (toString n))) H) : tFmt (tVar i) σ H Q := ⟨_, h, .inr ⟨n, rfl, log_ok hz, q (int_len hz)⟩⟩
end NL
namespace NL
open PySem L2 PySem.StrLaws Builtin Builtin.Str

theorem take_while_all {c : Nat} : ∀ {l : List Nat}, c ∉ l → l.takeWhile (· != c) = l
  | [], _ => rfl
  | x :: l, h => by
    have h1 : x ≠ c := fun e => h (by rw [e]; exact List.mem_cons_self)
    rw [List.takeWhile_cons, if_pos (by simpa using h1), take_while_all fun z => h (List.mem_cons_of_mem _ z)]
theorem take_while_at {c : Nat} : ∀ {l : List Nat} {i : Nat}, l[i]? = some c → (∀ k, k < i → l[k]? ≠ some c) → l.takeWhile (· != c) = l.take i
  | [], i, h, _ => by simp at h
  | x :: l, 0, h, _ => by
    simp at h; subst h
    rw [List.takeWhile_cons]; simp
  | x :: l, i + 1, h, hk => by
    have h1 : x ≠ c := fun e => hk 0 (by omega) (by rw [e]; rfl)
    rw [List.takeWhile_cons, if_pos (by simpa using h1), List.take_succ_cons, take_while_at (by simpa using h) fun k hk' z => hk (k + 1) (by omega) (by simpa using z)]
theorem find_c (r : List Nat) (c : Nat) : (Txt.find (mkS r) ⟨#[c]⟩ = -1 ∧ r.takeWhile (· != c) = r) ∨ ∃ i : Nat, Txt.find (mkS r) ⟨#[c]⟩ = i ∧ r.takeWhile (· != c) = r.take i := by
  have key := occ_head (mkS r) ⟨#[c]⟩ 1 (Nat.le_refl _)
  have one := fun i => subAt_one (mkS r) c i
  rcases key with ⟨h1, h2⟩ | ⟨a, h1, h2, h3⟩
  · left
    refine ⟨by unfold Txt.find; rw [h1], take_while_all fun hm => ?_⟩
    obtain ⟨i, hi⟩ := List.getElem?_of_mem hm
    exact h2 i ((one i).mpr hi)
  · right
    exact ⟨a, by unfold Txt.find; rw [h2], take_while_at ((one a).mp h3.1) fun k hk z => h3.2 k hk ((one k).mpr z)⟩
/-- the pieces of a split text -/
theorem split_len (x y : Str) : ∀ z ∈ Txt.split x y, z.length ≤ x.length := by
  intro z hz
  unfold Txt.split at hz
  split at hz
  · simp at hz; rw [hz]; exact Nat.le_refl _
  · split at hz
    · simp at hz; rw [hz]; exact Nat.le_refl _
    · unfold partsBetween at hz
      simp only [List.mem_map] at hz
      obtain ⟨⟨i, j⟩, _, e⟩ := hz
      rw [← e]
      show (strSub x i j).length ≤ x.length
      unfold strSub Str.length
      simp
      omega
theorem split_num (x y : Str) : (Txt.split x y).length ≤ x.length + 2 := by
  unfold Txt.split
  split
  · simp
  · split
    · simp
    · unfold partsBetween
      have h := occ_length_le x y 0 x.length (x.length + 1)
      simp
      omega
end NL
namespace NL
open PySem L2

def strSMALL : Str := "abcdefghijklmnopqrstuvwxyz"
def strDIGITS : Str := "0123456789"
def keyWords : List Str := ["hall", "worker", "kind", "in", "last", "field", "weak", "end", "tell", "price", "pause", "live", "age", "proc", "of", "nil", "new", "ask", "call", "send", "to", "say", "do", "if", "is", "else", "repeat"]
def keysV : List V := keyWords.map V.str
def isSm (c : Nat) : Bool := decide (c ∈ strSMALL.cps.toList)
def isDg (c : Nat) : Bool := decide (c ∈ strDIGITS.cps.toList)
def isRun (c : Nat) : Bool := isSm c || isDg c
theorem run_str : strSMALL ++ strDIGITS = mkS (strSMALL.cps.toList ++ strDIGITS.cps.toList) := by decide +kernel
theorem isRun_iff {c : Nat} : c ∈ (strSMALL ++ strDIGITS).cps.toList ↔ isRun c = true := by
  rw [run_str, mkS_list, List.mem_append]; unfold isRun isSm isDg; simp
theorem isRun_dec {c : Nat} : decide (c ∈ (strSMALL ++ strDIGITS).cps.toList) = isRun c := by
  rw [Bool.eq_iff_iff, decide_eq_true_iff]; exact isRun_iff
theorem sm_len : strSMALL.length = 26 := by decide +kernel
theorem dg_len : strDIGITS.length = 10 := by decide +kernel
theorem keys_flat : keysV.all flatV = true := by decide +kernel
theorem not35 : isRun 35 = false := by decide +kernel
theorem not45 : isRun 45 = false := by decide +kernel
theorem not62 : isRun 62 = false := by decide +kernel

/-- the end of the run that begins at k -/
def runEnd (row : List Nat) (k : Nat) : Nat := k + ((row.drop k).takeWhile isRun).length
theorem getD_of {r : List Nat} {k : Nat} (hk : k < r.length) : r.getD k 0 = r[k] := by
  rw [List.getD_eq_getElem?_getD, List.getElem?_eq_getElem hk]; rfl
theorem runEnd_stop {r : List Nat} {k : Nat} (h : ¬ k < r.length ∨ isRun (r.getD k 0) = false) : runEnd r k = k := by
  unfold runEnd
  by_cases hk : k < r.length
  · have h2 : isRun (r.getD k 0) = false := by
      rcases h with h | h
      · exact absurd hk h
      · exact h
    rw [List.drop_eq_getElem_cons hk]
    rw [getD_of hk] at h2
    rw [List.takeWhile_cons, h2]; simp
  · rw [List.drop_eq_nil_of_le (by omega)]; simp
theorem runEnd_go {r : List Nat} {k : Nat} (hk : k < r.length) (h1 : isRun (r.getD k 0) = true) : runEnd r (k + 1) = runEnd r k := by
  unfold runEnd
  rw [getD_of hk] at h1
  rw [List.drop_eq_getElem_cons hk, List.takeWhile_cons, h1]
  simp; omega
theorem runEnd_ge {r : List Nat} {k : Nat} : k ≤ runEnd r k := by unfold runEnd; omega
theorem runEnd_gt {r : List Nat} {k : Nat} (hk : k < r.length) (h1 : isRun (r.getD k 0) = true) : k < runEnd r k := by
  rw [← runEnd_go hk h1]
  exact Nat.lt_of_lt_of_le (Nat.lt_succ_self _) runEnd_ge
theorem takeWhile_le {p : Nat → Bool} : ∀ l : List Nat, (l.takeWhile p).length ≤ l.length
  | [] => Nat.le_refl _
  | c :: l => by
    rw [List.takeWhile_cons]
    split
    · simp only [List.length_cons]; exact Nat.succ_le_succ (takeWhile_le l)
    · simp
theorem runEnd_le {r : List Nat} {k : Nat} (h : k ≤ r.length) : runEnd r k ≤ r.length := by
  unfold runEnd
  have h1 := takeWhile_le (p := isRun) (r.drop k)
  rw [List.length_drop] at h1
  omega

inductive Item where
  | run (k j : Nat)
  | arrow (k : Nat)
  | sg (k c : Nat)
def items (r : List Nat) (k : Nat) : List Item :=
  if h : k < r.length ∧ r.getD k 0 ≠ 35 then
    if h2 : isRun (r.getD k 0) = true then .run k (runEnd r k) :: items r (runEnd r k)
    else if (r.drop k).take 2 = [45, 62] then .arrow k :: items r (k + 2)
    else .sg k (r.getD k 0) :: items r (k + 1)
  else []
termination_by r.length - k
decreasing_by
  · have := runEnd_gt h.1 h2; omega
  · omega
  · omega
theorem items_end {r : List Nat} {k : Nat} (h : ¬ (k < r.length ∧ r.getD k 0 ≠ 35)) : items r k = [] := by
  rw [items, dif_neg h]
theorem items_run {r : List Nat} {k : Nat} (h : k < r.length) (h1 : r.getD k 0 ≠ 35) (h2 : isRun (r.getD k 0) = true) : items r k = .run k (runEnd r k) :: items r (runEnd r k) := by
  rw [items, dif_pos ⟨h, h1⟩, dif_pos h2]
theorem items_arrow {r : List Nat} {k : Nat} (h : k < r.length) (h1 : r.getD k 0 ≠ 35) (h2 : isRun (r.getD k 0) = false) (h3 : (r.drop k).take 2 = [45, 62]) : items r k = .arrow k :: items r (k + 2) := by
  rw [items, dif_pos ⟨h, h1⟩, dif_neg (by rw [h2]; decide), if_pos h3]
theorem items_sg {r : List Nat} {k : Nat} (h : k < r.length) (h1 : r.getD k 0 ≠ 35) (h2 : isRun (r.getD k 0) = false) (h3 : ¬ (r.drop k).take 2 = [45, 62]) : items r k = .sg k (r.getD k 0) :: items r (k + 1) := by
  rw [items, dif_pos ⟨h, h1⟩, dif_neg (by rw [h2]; decide), if_neg h3]
theorem arrow_lt {r : List Nat} {k : Nat} (h3 : (r.drop k).take 2 = [45, 62]) : k + 2 ≤ r.length := by
  have e := congrArg List.length h3
  simp at e
  omega

/-! the words -/
def kIn (w : List Nat) : Bool := inV (.str (mkS w)) keysV
def runSort (w : List Nat) : Str :=
  if isSm (w.getD 0 0) = true then (if kIn w = true then "key" else "name")
  else if (w.all isDg && (decide (w = [48]) || !decide (w.getD 0 0 = 48))) = true then "number" else "bad"
def signsV : List V := [.str "=", .str ".", .str ",", .str ":"]
def sgIn (c : Nat) : Bool := inV (.str ⟨#[c]⟩) signsV
def tokD (line k : Nat) (sort word : Str) : PyData := .tuple [.int line, .int ((k : Int) + 1), .str sort, .str word]
def wordAt (r : List Nat) (k j : Nat) : List Nat := (r.drop k).take (j - k)
/-- sort and word of an item -/
def tokOf (r : List Nat) : Item → Option (Nat × Str × Str)
  | .run k j => some (k, runSort (wordAt r k j), if runSort (wordAt r k j) = "bad" then "number" else mkS (wordAt r k j))
  | .arrow k => some (k, "sign", "->")
  | .sg k c => if sgIn c = true then some (k, "sign", ⟨#[c]⟩) else if c ≠ 32 then some (k, "bad", "sign") else none
def toks (r : List Nat) (k : Nat) : List (Nat × Str × Str) := (items r k).filterMap (tokOf r)
def tokL (line : Nat) (t : Nat × Str × Str) : PyData := tokD line t.1 t.2.1 t.2.2
def lineToks (line : Nat) (r : List Nat) : List PyData := (toks r 0).map (tokL line)

def bare (r : List Nat) : List Nat := r.takeWhile (· != 35)
theorem hash_str : ("#" : Str) = ⟨#[35]⟩ := by decide +kernel

theorem toks_end {r : List Nat} {k : Nat} (h : ¬ (k < r.length ∧ r.getD k 0 ≠ 35)) : toks r k = [] := by
  unfold toks; rw [items_end h]; rfl
theorem toks_run {r : List Nat} {k : Nat} (h : k < r.length) (h1 : r.getD k 0 ≠ 35) (h2 : isRun (r.getD k 0) = true) :
    toks r k = (k, runSort (wordAt r k (runEnd r k)), if runSort (wordAt r k (runEnd r k)) = "bad" then ("number" : Str) else mkS (wordAt r k (runEnd r k))) :: toks r (runEnd r k) := by
  unfold toks; rw [items_run h h1 h2]; rfl
theorem toks_arrow {r : List Nat} {k : Nat} (h : k < r.length) (h1 : r.getD k 0 ≠ 35) (h2 : isRun (r.getD k 0) = false) (h3 : (r.drop k).take 2 = [45, 62]) : toks r k = (k, (("sign" : Str), ("->" : Str))) :: toks r (k + 2) := by
  unfold toks; rw [items_arrow h h1 h2 h3]; rfl
theorem toks_sg {r : List Nat} {k : Nat} (h : k < r.length) (h1 : r.getD k 0 ≠ 35) (h2 : isRun (r.getD k 0) = false) (h3 : ¬ (r.drop k).take 2 = [45, 62]) (h4 : sgIn (r.getD k 0) = true) :
    toks r k = (k, (("sign" : Str), (⟨#[r.getD k 0]⟩ : Str))) :: toks r (k + 1) := by
  unfold toks; rw [items_sg h h1 h2 h3, List.filterMap_cons]; have e : tokOf r (.sg k (r.getD k 0)) = some (k, (("sign" : Str), (⟨#[r.getD k 0]⟩ : Str))) := by unfold tokOf; dsimp only; rw [if_pos h4]
  rw [e]
theorem toks_odd {r : List Nat} {k : Nat} (h : k < r.length) (h1 : r.getD k 0 ≠ 35) (h2 : isRun (r.getD k 0) = false) (h3 : ¬ (r.drop k).take 2 = [45, 62]) (h4 : sgIn (r.getD k 0) = false) (h5 : r.getD k 0 ≠ 32) :
    toks r k = (k, (("bad" : Str), ("sign" : Str))) :: toks r (k + 1) := by
  unfold toks; rw [items_sg h h1 h2 h3, List.filterMap_cons]; have e : tokOf r (.sg k (r.getD k 0)) = some (k, (("bad" : Str), ("sign" : Str))) := by unfold tokOf; dsimp only; rw [if_neg (by rw [h4]; decide), if_pos h5]
  rw [e]
theorem toks_blank {r : List Nat} {k : Nat} (h : k < r.length) (h1 : r.getD k 0 ≠ 35) (h2 : isRun (r.getD k 0) = false) (h3 : ¬ (r.drop k).take 2 = [45, 62]) (h4 : sgIn (r.getD k 0) = false) (h5 : ¬ r.getD k 0 ≠ 32) :
    toks r k = toks r (k + 1) := by
  unfold toks; rw [items_sg h h1 h2 h3, List.filterMap_cons]; have e : tokOf r (.sg k (r.getD k 0)) = none := by unfold tokOf; dsimp only; rw [if_neg (by rw [h4]; decide), if_neg h5]
  rw [e]
theorem arrow_str : ("->" : Str) = mkS [45, 62] := by decide +kernel
theorem blank_str : (" " : Str) = ⟨#[32]⟩ := by decide +kernel
theorem signs_flat : signsV.all flatV = true := by decide +kernel
theorem wordAt_len {r : List Nat} {k j : Nat} (hk : k < j) (hj : j ≤ r.length) : (wordAt r k j).length = j - k := by
  unfold wordAt; rw [List.length_take, List.length_drop]; omega

theorem zero_str : ("0" : Str) = mkS [48] := by decide +kernel
theorem one_str {c d : Nat} : (V.str ⟨#[c]⟩ = V.str ⟨#[d]⟩) ↔ c = d := by
  constructor
  · intro h; injection h with h; injection h with h; simpa using h
  · intro h; rw [h]
theorem is_hash {c : Nat} : (V.str ⟨#[c]⟩ = V.str "#") ↔ c = 35 := by rw [hash_str]; exact one_str
theorem is_blank {c : Nat} : (V.str ⟨#[c]⟩ = V.str " ") ↔ c = 32 := by rw [blank_str]; exact one_str
theorem is_zero {c : Nat} : (V.str ⟨#[c]⟩ = V.str "0") ↔ c = 48 := by rw [zero_str]; exact one_str
theorem is_arrow {l : List Nat} : (V.str (mkS l) = V.str "->") ↔ l = [45, 62] := by
  rw [arrow_str]
  exact ⟨fun h => mkS_inj (V.str.inj h), fun h => by rw [h]⟩

/-! the runs of a row, for their lengths -/
def runs (r : List Nat) (k : Nat) : List (Nat × Nat) :=
  if h : k < r.length then
    if h2 : isRun (r.getD k 0) = true then (k, runEnd r k) :: runs r (runEnd r k)
    else runs r (k + 1)
  else []
termination_by r.length - k
decreasing_by
  · have := runEnd_gt h h2; omega
  · omega
theorem runs_end {r : List Nat} {k : Nat} (h : ¬ k < r.length) : runs r k = [] := by rw [runs, dif_neg h]
theorem runs_run {r : List Nat} {k : Nat} (h : k < r.length) (h2 : isRun (r.getD k 0) = true) : runs r k = (k, runEnd r k) :: runs r (runEnd r k) := by rw [runs, dif_pos h, dif_pos h2]
theorem runs_odd {r : List Nat} {k : Nat} (h : k < r.length) (h2 : isRun (r.getD k 0) = false) : runs r k = runs r (k + 1) := by rw [runs, dif_pos h, dif_neg (by rw [h2]; decide)]
/-- a run that is too long -/
def longOne (number : Bool) (r : List Nat) (kj : Nat × Nat) : Bool := decide (isDg (r.getD kj.1 0) = number) && decide ((if number then 9 else 16) < kj.2 - kj.1)
def longLine (number : Bool) (r : List Nat) : Bool := (runs (bare r) 0).any (longOne number (bare r))
def linesOf (text : List Nat) : List (List Nat) := (Txt.split (mkS text) "\n").map fun z => z.cps.toList
def longText (number : Bool) (text : List Nat) : Bool := (linesOf text).any (longLine number)
theorem linesOf_len {text l : List Nat} (h : l ∈ linesOf text) : l.length ≤ text.length := by
  unfold linesOf at h
  obtain ⟨z, hz, e⟩ := List.mem_map.mp h
  rw [← e]
  exact split_len _ _ z hz
theorem linesOf_num {text : List Nat} : (linesOf text).length ≤ text.length + 2 := by
  unfold linesOf; rw [List.length_map]; exact split_num _ _
theorem lines_map (text : List Nat) : (Txt.split (mkS text) "\n").map V.str = (linesOf text).map fun l => V.str (mkS l) := by
  unfold linesOf; rw [List.map_map]; rfl
theorem bare_len {r : List Nat} : (bare r).length ≤ r.length := takeWhile_le _
def tokensOf (text : List Nat) : List (List PyData) := (linesOf text).mapIdx fun i l => lineToks (i + 1) l
theorem nl_one : (("\n" : Str).length == 0) = false := by decide +kernel
theorem bl_eq {a b : Bool} : (V.bl a = V.bl b) ↔ a = b := ⟨fun h => V.bl.inj h, fun h => by rw [h]⟩

/-- all words, line by line -/
def toksAll (text : List Nat) : List (List (Nat × Nat × Str × Str)) := (linesOf text).mapIdx fun i l => (toks l 0).map fun t => (i + 1, t)
def tokP (x : Nat × Nat × Str × Str) : PyData := tokL x.1 x.2
theorem tokensOf_eq (text : List Nat) : tokensOf text = (toksAll text).map fun L => L.map tokP := by
  unfold tokensOf toksAll lineToks
  apply List.ext_getElem?
  intro i
  rw [List.getElem?_map, List.getElem?_mapIdx, List.getElem?_mapIdx]
  cases (linesOf text)[i]? with
  | none => rfl
  | some l => simp only [Option.map_some, List.map_map]; rfl
def isBad (x : Nat × Nat × Str × Str) : Bool := decide (x.2.2.1 = "bad")
def firstBad (text : List Nat) : Option (Nat × Nat × Str × Str) := (toksAll text).flatten.find? isBad
theorem items_len (r : List Nat) : ∀ (n k : Nat), r.length - k ≤ n → (items r k).length ≤ r.length - k
  | 0, k, h => by
    rw [items_end (by omega)]; simp
  | n + 1, k, h => by
    by_cases hc : k < r.length ∧ r.getD k 0 ≠ 35
    · cases h2 : isRun (r.getD k 0) with
      | true =>
        rw [items_run hc.1 hc.2 h2]
        have h3 := runEnd_gt hc.1 h2
        have h4 := runEnd_le (r := r) (k := k) (by omega)
        have := items_len r n (runEnd r k) (by omega)
        simp only [List.length_cons]; omega
      | false =>
        by_cases h3 : (r.drop k).take 2 = [45, 62]
        · rw [items_arrow hc.1 hc.2 h2 h3]
          have h4 := arrow_lt h3
          have := items_len r n (k + 2) (by omega)
          simp only [List.length_cons]; omega
        · rw [items_sg hc.1 hc.2 h2 h3]
          have := items_len r n (k + 1) (by omega)
          simp only [List.length_cons]; omega
    · rw [items_end hc]; simp
theorem toks_len (r : List Nat) : (toks r 0).length ≤ r.length := by
  have h1 := items_len r r.length 0 (by omega)
  have h2 : (toks r 0).length ≤ (items r 0).length := List.length_filterMap_le _ _
  omega
theorem flat_len {α : Type} {b : Nat} : ∀ (A : List (List α)), (∀ l ∈ A, l.length ≤ b) → A.flatten.length ≤ A.length * b
  | [], _ => by simp
  | l :: A, h => by
    have h1 := flat_len A fun x hx => h x (List.mem_cons_of_mem _ hx)
    have h2 := h l List.mem_cons_self
    simp only [List.flatten_cons, List.length_append, List.length_cons, Nat.succ_mul]; omega
/-- where the words of the items begin -/
theorem items_at (r : List Nat) : ∀ (n k : Nat), r.length - k ≤ n → ∀ it ∈ items r k, (match it with | .run a b => a < r.length | .arrow a => a < r.length | .sg a _ => a < r.length)
  | 0, k, h => by
    rw [items_end (by omega)]; simp
  | n + 1, k, h => by
    by_cases hc : k < r.length ∧ r.getD k 0 ≠ 35
    · cases h2 : isRun (r.getD k 0) with
      | true =>
        rw [items_run hc.1 hc.2 h2]
        have h3 := runEnd_gt hc.1 h2
        intro it hit
        rcases List.mem_cons.mp hit with rfl | hit
        · exact hc.1
        · exact items_at r n _ (by omega) it hit
      | false =>
        by_cases h3 : (r.drop k).take 2 = [45, 62]
        · rw [items_arrow hc.1 hc.2 h2 h3]
          intro it hit
          rcases List.mem_cons.mp hit with rfl | hit
          · exact hc.1
          · exact items_at r n _ (by omega) it hit
        · rw [items_sg hc.1 hc.2 h2 h3]
          intro it hit
          rcases List.mem_cons.mp hit with rfl | hit
          · exact hc.1
          · exact items_at r n _ (by omega) it hit
    · rw [items_end hc]; simp
theorem sign_bad : ¬ (("sign" : Str) = "bad") := by decide +kernel
theorem str_number : ("number" : Str).length = 6 := by decide +kernel
theorem str_sign : ("sign" : Str).length = 4 := by decide +kernel
/-- a fault's place and word -/
theorem toks_at {r : List Nat} {t : Nat × Str × Str} (h : t ∈ toks r 0) : t.1 < r.length ∧ (t.2.1 = "bad" → t.2.2.length ≤ 100) := by
  unfold toks at h
  obtain ⟨it, h1, h2⟩ := List.mem_filterMap.mp h
  have h3 := items_at r r.length 0 (by omega) it h1
  cases it with
  | run a b =>
    simp only [tokOf, Option.some.injEq] at h2
    subst h2
    refine ⟨h3, fun z => ?_⟩
    have z' : runSort (wordAt r a b) = "bad" := z
    dsimp only
    rw [if_pos z', str_number]; decide
  | arrow a =>
    simp only [tokOf, Option.some.injEq] at h2
    subst h2
    exact ⟨h3, fun z => absurd z sign_bad⟩
  | sg a c =>
    simp only [tokOf] at h2
    split at h2
    · simp only [Option.some.injEq] at h2
      subst h2
      exact ⟨h3, fun z => absurd z sign_bad⟩
    · split at h2
      · simp only [Option.some.injEq] at h2
        subst h2
        exact ⟨h3, fun _ => by dsimp only; rw [str_sign]; decide⟩
      · cases h2
end NL
namespace NL
open PySem L2

def itRun : Item → Option (Nat × Nat)
  | .run a b => some (a, b)
  | _ => none
/-- the runs ahead of the row's remark -/
def runsI (r : List Nat) (k : Nat) : List (Nat × Nat) := (items r k).filterMap itRun
theorem runsI_end {r : List Nat} {k : Nat} (h : ¬ (k < r.length ∧ r.getD k 0 ≠ 35)) : runsI r k = [] := by unfold runsI; rw [items_end h]; rfl
theorem runsI_run {r : List Nat} {k : Nat} (h : k < r.length) (h1 : r.getD k 0 ≠ 35) (h2 : isRun (r.getD k 0) = true) : runsI r k = (k, runEnd r k) :: runsI r (runEnd r k) := by unfold runsI; rw [items_run h h1 h2]; rfl
theorem runsI_arrow {r : List Nat} {k : Nat} (h : k < r.length) (h1 : r.getD k 0 ≠ 35) (h2 : isRun (r.getD k 0) = false) (h3 : (r.drop k).take 2 = [45, 62]) : runsI r k = runsI r (k + 2) := by unfold runsI; rw [items_arrow h h1 h2 h3]; rfl
theorem runsI_sg {r : List Nat} {k : Nat} (h : k < r.length) (h1 : r.getD k 0 ≠ 35) (h2 : isRun (r.getD k 0) = false) (h3 : ¬ (r.drop k).take 2 = [45, 62]) : runsI r k = runsI r (k + 1) := by unfold runsI; rw [items_sg h h1 h2 h3]; rfl

theorem bare_at : ∀ (r : List Nat) (k : Nat), k < (bare r).length → k < r.length ∧ (bare r).getD k 0 = r.getD k 0 ∧ r.getD k 0 ≠ 35
  | [], k, h => absurd h (Nat.not_lt_zero _)
  | c :: r, k, h => by
    unfold bare at h ⊢
    rw [List.takeWhile_cons] at h ⊢
    by_cases hc : c = 35
    · subst hc; simp at h
    · have e : (c != 35) = true := by simpa using hc
      rw [e] at h ⊢
      simp only [if_true] at h ⊢
      cases k with
      | zero => exact ⟨Nat.succ_pos _, rfl, hc⟩
      | succ k =>
        have := bare_at r k (by simpa [bare] using h)
        exact ⟨Nat.succ_lt_succ this.1, this.2.1, this.2.2⟩
theorem bare_end : ∀ r : List Nat, ¬ ((bare r).length < r.length ∧ r.getD (bare r).length 0 ≠ 35)
  | [] => fun h => absurd h.1 (Nat.not_lt_zero _)
  | c :: r => by
    unfold bare
    rw [List.takeWhile_cons]
    by_cases hc : c = 35
    · subst hc; simp
    · have e : (c != 35) = true := by simpa using hc
      rw [e]
      simp only [if_true, List.length_cons]
      intro h
      exact bare_end r ⟨Nat.lt_of_succ_lt_succ h.1, h.2⟩
theorem runEnd_bare (r : List Nat) : ∀ n k, (bare r).length - k ≤ n → k ≤ (bare r).length → runEnd (bare r) k = runEnd r k
  | 0, k, h, hk => by
    have e : k = (bare r).length := by omega
    rw [runEnd_stop (.inl (by omega))]
    have he := bare_end r
    rw [← e] at he
    by_cases h1 : k < r.length
    · have h2 : r.getD k 0 = 35 := Classical.byContradiction fun z => he ⟨h1, z⟩
      rw [runEnd_stop (.inr (by rw [h2]; exact not35))]
    · rw [runEnd_stop (.inl h1)]
  | n + 1, k, h, hk => by
    by_cases hk1 : k < (bare r).length
    · obtain ⟨h1, h2, h3⟩ := bare_at r k hk1
      cases h4 : isRun (r.getD k 0) with
      | true => rw [← runEnd_go hk1 (by rw [h2]; exact h4), ← runEnd_go h1 h4]; exact runEnd_bare r n (k + 1) (by omega) (by omega)
      | false => rw [runEnd_stop (.inr h4), runEnd_stop (.inr (by rw [h2]; exact h4))]
    · exact runEnd_bare r n k (by omega) hk
theorem arrow_at {r : List Nat} {k : Nat} (h : (r.drop k).take 2 = [45, 62]) : r.getD k 0 = 45 ∧ r.getD (k + 1) 0 = 62 := by
  have h0 := congrArg (fun l => l[0]?) h
  have h1 := congrArg (fun l => l[1]?) h
  simp only [List.getElem?_take, List.getElem?_drop] at h0 h1
  simp at h0 h1
  rw [List.getD_eq_getElem?_getD, List.getD_eq_getElem?_getD, h0, h1]; exact ⟨rfl, rfl⟩
theorem longI' (num : Bool) (r : List Nat) : ∀ n k, (bare r).length - k ≤ n → k ≤ (bare r).length → (runsI r k).any (longOne num r) = (runs (bare r) k).any (longOne num (bare r))
  | 0, k, h, hk => by
    have e : k = (bare r).length := by omega
    have he := bare_end r
    rw [← e] at he
    rw [runsI_end he, runs_end (by omega)]; rfl
  | n + 1, k, h, hk => by
    by_cases hk1 : k < (bare r).length
    · obtain ⟨h1, h2, h3⟩ := bare_at r k hk1
      cases h4 : isRun (r.getD k 0) with
      | true =>
        have h5 : isRun ((bare r).getD k 0) = true := by rw [h2]; exact h4
        have h6 := runEnd_gt hk1 h5
        have h7 := runEnd_le hk
        have h8 := runEnd_bare r _ k (Nat.le_refl _) hk
        rw [runsI_run h1 h3 h4, runs_run hk1 h5, List.any_cons, List.any_cons, ← h8, longI' num r n (runEnd (bare r) k) (by omega) h7]
        have e : longOne num r (k, runEnd (bare r) k) = longOne num (bare r) (k, runEnd (bare r) k) := by
          unfold longOne; dsimp only; rw [h2]
        rw [e]
      | false =>
        have h5 : isRun ((bare r).getD k 0) = false := by rw [h2]; exact h4
        by_cases h6 : (r.drop k).take 2 = [45, 62]
        · obtain ⟨e0, e1⟩ := arrow_at h6
          have hl := arrow_lt h6
          have hk2 : k + 1 < (bare r).length := by
            apply Classical.byContradiction
            intro z
            have e : k + 1 = (bare r).length := by omega
            have he := bare_end r
            rw [← e] at he
            exact he ⟨by omega, by rw [e1]; decide⟩
          obtain ⟨g1, g2, g3⟩ := bare_at r (k + 1) hk2
          rw [runsI_arrow h1 h3 h4 h6, runs_odd hk1 h5, runs_odd hk2 (by rw [g2, e1]; exact not62)]
          exact longI' num r n (k + 2) (by omega) (by omega)
        · rw [runsI_sg h1 h3 h4 h6, runs_odd hk1 h5]
          exact longI' num r n (k + 1) (by omega) (by omega)
    · exact longI' num r n k (by omega) hk
def lgI (num : Bool) (r : List Nat) (k : Nat) : Bool := (runsI r k).any (longOne num r)
theorem lgI_all (num : Bool) (r : List Nat) : lgI num r 0 = longLine num r := longI' num r _ 0 (Nat.le_refl _) (Nat.zero_le _)
theorem sm_dg : ∀ c ∈ strSMALL.cps.toList, isDg c = false := by decide +kernel
theorem dg_of {c : Nat} (h : isSm c = true) : isDg c = false := sm_dg c (of_decide_eq_true h)
theorem dg_if {c : Nat} (h : isRun c = true) (h1 : isSm c = false) : isDg c = true := by
  unfold isRun at h; rw [h1] at h; exact h

/-! the words that are right, and the faults -/
abbrev Tk := Nat × Str × Str
def badT (t : Tk) : Bool := decide (t.2.1 = "bad")
def gd (r : List Nat) (k : Nat) : List Tk := (toks r k).filter fun t => !badT t
def bd (r : List Nat) (k : Nat) : List Tk := (toks r k).filter badT
def tkW (line : Nat) (t : Tk) : PyData := tokP (line, t)
def tkF (line : Nat) (t : Tk) : PyData := .tuple [.str "bad", .int line, .int ((t.1 : Int) + 1), .str t.2.2]
/-- one step over the row: the words and the faults it adds -/
structure Step (r : List Nat) (j j' : Nat) (ws fs : List Tk) (nm fg : Bool) : Prop where
  w : gd r j = ws ++ gd r j'
  f : bd r j = fs ++ bd r j'
  n : lgI false r j = (nm || lgI false r j')
  g : lgI true r j = (fg || lgI true r j')
  lt : j < j'
  le : j' ≤ r.length
theorem step_run {r : List Nat} {j : Nat} (h : j < r.length) (h1 : r.getD j 0 ≠ 35) (h2 : isRun (r.getD j 0) = true) (t : Tk)
    (ht : t = (j, runSort (wordAt r j (runEnd r j)), if runSort (wordAt r j (runEnd r j)) = "bad" then ("number" : Str) else mkS (wordAt r j (runEnd r j)))) :
    Step r j (runEnd r j) (if badT t = true then [] else [t]) (if badT t = true then [t] else []) (longOne false r (j, runEnd r j)) (longOne true r (j, runEnd r j)) := by
  refine ⟨?_, ?_, ?_, ?_, runEnd_gt h h2, runEnd_le (Nat.le_of_lt h)⟩
  · unfold gd; rw [toks_run h h1 h2, ← ht, List.filter_cons]; cases badT t <;> rfl
  · unfold bd; rw [toks_run h h1 h2, ← ht, List.filter_cons]; cases badT t <;> rfl
  · unfold lgI; rw [runsI_run h h1 h2, List.any_cons]
  · unfold lgI; rw [runsI_run h h1 h2, List.any_cons]
theorem step_arrow {r : List Nat} {j : Nat} (h : j < r.length) (h1 : r.getD j 0 ≠ 35) (h2 : isRun (r.getD j 0) = false) (h3 : (r.drop j).take 2 = [45, 62]) :
    Step r j (j + 2) [(j, ("sign" : Str), ("->" : Str))] [] false false := by
  have e : badT (j, ("sign" : Str), ("->" : Str)) = false := decide_eq_false sign_bad
  refine ⟨?_, ?_, ?_, ?_, by omega, arrow_lt h3⟩
  · unfold gd; rw [toks_arrow h h1 h2 h3, List.filter_cons, e]; rfl
  · unfold bd; rw [toks_arrow h h1 h2 h3, List.filter_cons, e]; rfl
  · unfold lgI; rw [runsI_arrow h h1 h2 h3]; rfl
  · unfold lgI; rw [runsI_arrow h h1 h2 h3]; rfl
theorem step_sg {r : List Nat} {j : Nat} (h : j < r.length) (h1 : r.getD j 0 ≠ 35) (h2 : isRun (r.getD j 0) = false) (h3 : ¬ (r.drop j).take 2 = [45, 62]) (h4 : sgIn (r.getD j 0) = true) :
    Step r j (j + 1) [(j, ("sign" : Str), (⟨#[r.getD j 0]⟩ : Str))] [] false false := by
  have e : badT (j, ("sign" : Str), (⟨#[r.getD j 0]⟩ : Str)) = false := decide_eq_false sign_bad
  refine ⟨?_, ?_, ?_, ?_, by omega, by omega⟩
  · unfold gd; rw [toks_sg h h1 h2 h3 h4, List.filter_cons, e]; rfl
  · unfold bd; rw [toks_sg h h1 h2 h3 h4, List.filter_cons, e]; rfl
  · unfold lgI; rw [runsI_sg h h1 h2 h3]; rfl
  · unfold lgI; rw [runsI_sg h h1 h2 h3]; rfl
theorem step_odd {r : List Nat} {j : Nat} (h : j < r.length) (h1 : r.getD j 0 ≠ 35) (h2 : isRun (r.getD j 0) = false) (h3 : ¬ (r.drop j).take 2 = [45, 62]) (h4 : sgIn (r.getD j 0) = false) (h5 : r.getD j 0 ≠ 32) :
    Step r j (j + 1) [] [(j, ("bad" : Str), ("sign" : Str))] false false := by
  have e : badT (j, ("bad" : Str), ("sign" : Str)) = true := decide_eq_true rfl
  refine ⟨?_, ?_, ?_, ?_, by omega, by omega⟩
  · unfold gd; rw [toks_odd h h1 h2 h3 h4 h5, List.filter_cons, e]; rfl
  · unfold bd; rw [toks_odd h h1 h2 h3 h4 h5, List.filter_cons, e]; rfl
  · unfold lgI; rw [runsI_sg h h1 h2 h3]; rfl
  · unfold lgI; rw [runsI_sg h h1 h2 h3]; rfl
theorem step_blank {r : List Nat} {j : Nat} (h : j < r.length) (h1 : r.getD j 0 ≠ 35) (h2 : isRun (r.getD j 0) = false) (h3 : ¬ (r.drop j).take 2 = [45, 62]) (h4 : sgIn (r.getD j 0) = false) (h5 : ¬ r.getD j 0 ≠ 32) :
    Step r j (j + 1) [] [] false false := by
  refine ⟨?_, ?_, ?_, ?_, by omega, by omega⟩
  · unfold gd; rw [toks_blank h h1 h2 h3 h4 h5]; rfl
  · unfold bd; rw [toks_blank h h1 h2 h3 h4 h5]; rfl
  · unfold lgI; rw [runsI_sg h h1 h2 h3]; rfl
  · unfold lgI; rw [runsI_sg h h1 h2 h3]; rfl
/-- how far the row is read -/
structure Got (r : List Nat) (j : Nat) (ws fs : List Tk) (nm fg : Bool) : Prop where
  w : ws ++ gd r j = gd r 0
  f : fs ++ bd r j = bd r 0
  n : (nm || lgI false r j) = longLine false r
  g : (fg || lgI true r j) = longLine true r
theorem Got.start (r : List Nat) : Got r 0 [] [] false false := ⟨rfl, rfl, lgI_all false r, lgI_all true r⟩
theorem Got.step {r : List Nat} {j j' : Nat} {ws fs ws' fs' : List Tk} {nm fg nm' fg' : Bool} (a : Got r j ws fs nm fg) (b : Step r j j' ws' fs' nm' fg') : Got r j' (ws ++ ws') (fs ++ fs') (nm || nm') (fg || fg') :=
  ⟨by rw [List.append_assoc, ← b.w, a.w], by rw [List.append_assoc, ← b.f, a.f], by rw [Bool.or_assoc, ← b.n, a.n], by rw [Bool.or_assoc, ← b.g, a.g]⟩
theorem Got.fin {r : List Nat} {j : Nat} {ws fs : List Tk} {nm fg : Bool} (a : Got r j ws fs nm fg) (h : ¬ (j < r.length ∧ r.getD j 0 ≠ 35)) : ws = gd r 0 ∧ fs = bd r 0 ∧ nm = longLine false r ∧ fg = longLine true r := by
  obtain ⟨w, f, n, g⟩ := a
  have e1 : gd r j = [] := by unfold gd; rw [toks_end h]; rfl
  have e2 : bd r j = [] := by unfold bd; rw [toks_end h]; rfl
  have e3 : ∀ b, lgI b r j = false := fun b => by unfold lgI; rw [runsI_end h]; rfl
  rw [e1, List.append_nil] at w
  rw [e2, List.append_nil] at f
  rw [e3, Bool.or_false] at n g
  exact ⟨w, f, n, g⟩
/-- what the law holds of the text's lines up to line i -/
def wsTo (text : List Nat) (i : Nat) : List (Nat × Tk) := ((toksAll text).take i).flatten.filter fun x => !isBad x
def fsTo (text : List Nat) (i : Nat) : List (Nat × Tk) := ((toksAll text).take i).flatten.filter isBad
theorem filter_line (i : Nat) (p : Nat × Tk → Bool) (q : Tk → Bool) (h : ∀ t, p (i, t) = q t) (l : List Tk) : (l.map fun t => (i, t)).filter p = (l.filter q).map fun t => (i, t) := by
  induction l with
  | nil => rfl
  | cons t l ih =>
    rw [List.map_cons, List.filter_cons, List.filter_cons, ih, h]
    cases q t <;> rfl
theorem wsTo_succ {text l : List Nat} {i : Nat} (h : (linesOf text)[i]? = some l) : wsTo text (i + 1) = wsTo text i ++ (gd l 0).map fun t => (i + 1, t) := by
  unfold wsTo
  have e : (toksAll text)[i]? = some ((toks l 0).map fun t => (i + 1, t)) := by unfold toksAll; rw [List.getElem?_mapIdx, h]; rfl
  rw [List.take_add_one, e, List.flatten_append, List.filter_append]
  congr 1
  show (((toks l 0).map fun t => (i + 1, t)) ++ []).filter _ = _
  rw [List.append_nil]
  exact filter_line (i + 1) _ _ (fun t => rfl) _
theorem fsTo_succ {text l : List Nat} {i : Nat} (h : (linesOf text)[i]? = some l) : fsTo text (i + 1) = fsTo text i ++ (bd l 0).map fun t => (i + 1, t) := by
  unfold fsTo
  have e : (toksAll text)[i]? = some ((toks l 0).map fun t => (i + 1, t)) := by unfold toksAll; rw [List.getElem?_mapIdx, h]; rfl
  rw [List.take_add_one, e, List.flatten_append, List.filter_append]
  congr 1
  show (((toks l 0).map fun t => (i + 1, t)) ++ []).filter _ = _
  rw [List.append_nil]
  exact filter_line (i + 1) _ _ (fun t => rfl) _
def lgTo (b : Bool) (text : List Nat) (i : Nat) : Bool := ((linesOf text).take i).any (longLine b)
theorem lgTo_succ {b : Bool} {text l : List Nat} {i : Nat} (h : (linesOf text)[i]? = some l) : lgTo b text (i + 1) = (lgTo b text i || longLine b l) := by
  unfold lgTo; rw [List.take_add_one, h, List.any_append]; simp
theorem toksAll_len (text : List Nat) : (toksAll text).length = (linesOf text).length := by unfold toksAll; rw [List.length_mapIdx]
theorem wsTo_all {text : List Nat} (h : firstBad text = none) : wsTo text (linesOf text).length = (toksAll text).flatten := by
  unfold wsTo
  rw [← toksAll_len, List.take_length]
  rw [List.filter_eq_self]
  intro x hx
  have := List.find?_eq_none.mp h x hx
  cases hb : isBad x with
  | true => exact absurd hb this
  | false => rfl
theorem fsTo_all (text : List Nat) : (fsTo text (linesOf text).length).head? = firstBad text := by
  unfold fsTo firstBad
  rw [← toksAll_len, List.take_length, List.head?_filter]
theorem lgTo_all (b : Bool) (text : List Nat) : lgTo b text (linesOf text).length = longText b text := by
  unfold lgTo longText; rw [List.take_length]
end NL
namespace NL
open PySem L2
def top (i : Nat) : Stmt := PySem.Challenge.pw_nowhereleft_k00_words_and_their_places.main.body.getD i (.Pass ⟨0, 0, 0, 0⟩)
abbrev s_all_in : Stmt := top 11
abbrev N_all_in : List Str := ["word", "signs", "sign"]
theorem sc_all_in : FnScope N_all_in ["word", "signs"] (defScope s_all_in) := ⟨rfl, rfl, rfl, by decide +kernel, rfl, by decide +kernel, by decide +kernel⟩
abbrev s_run_sort : Stmt := top 12
abbrev N_run_sort : List Str := ["word"]
theorem sc_run_sort : FnScope N_run_sort ["word"] (defScope s_run_sort) := ⟨rfl, rfl, rfl, by decide +kernel, rfl, by decide +kernel, by decide +kernel⟩
abbrev s_run_end : Stmt := top 13
abbrev N_run_end : List Str := ["row", "start", "at"]
theorem sc_run_end : FnScope N_run_end ["row", "start"] (defScope s_run_end) := ⟨rfl, rfl, rfl, by decide +kernel, rfl, by decide +kernel, by decide +kernel⟩
abbrev s_line_words : Stmt := top 14
abbrev N_line_words : List Str := ["row", "line", "found", "at", "sign", "stop", "word", "sort"]
theorem sc_line_words : FnScope N_line_words ["row", "line"] (defScope s_line_words) := ⟨rfl, rfl, rfl, by decide +kernel, rfl, by decide +kernel, by decide +kernel⟩
abbrev s_bare_row : Stmt := top 15
abbrev N_bare_row : List Str := ["row", "at"]
theorem sc_bare_row : FnScope N_bare_row ["row"] (defScope s_bare_row) := ⟨rfl, rfl, rfl, by decide +kernel, rfl, by decide +kernel, by decide +kernel⟩
abbrev s_long_run : Stmt := top 16
abbrev N_long_run : List Str := ["text", "number", "line", "row", "at", "stop", "digit"]
theorem sc_long_run : FnScope N_long_run ["text", "number"] (defScope s_long_run) := ⟨rfl, rfl, rfl, by decide +kernel, rfl, by decide +kernel, by decide +kernel⟩
abbrev s_check_sizes : Stmt := top 17
abbrev N_check_sizes : List Str := ["texts", "text"]
theorem sc_check_sizes : FnScope N_check_sizes ["texts"] (defScope s_check_sizes) := ⟨rfl, rfl, rfl, by decide +kernel, rfl, by decide +kernel, by decide +kernel⟩
abbrev s_text_words : Stmt := top 18
abbrev N_text_words : List Str := ["text", "found", "lines", "k"]
theorem sc_text_words : FnScope N_text_words ["text"] (defScope s_text_words) := ⟨rfl, rfl, rfl, by decide +kernel, rfl, by decide +kernel, by decide +kernel⟩
abbrev s_token_rows : Stmt := top 19
abbrev N_token_rows : List Str := ["name", "text", "found", "words", "word"]
theorem sc_token_rows : FnScope N_token_rows ["name", "text"] (defScope s_token_rows) := ⟨rfl, rfl, rfl, by decide +kernel, rfl, by decide +kernel, by decide +kernel⟩
abbrev s__law_open : Stmt := top 21
abbrev N__law_open : List Str := ["script", "deep", "mix", "k", "cell"]
theorem sc__law_open : FnScope N__law_open ["script"] (defScope s__law_open) := ⟨rfl, rfl, rfl, by decide +kernel, rfl, by decide +kernel, by decide +kernel⟩
abbrev s__law_pick : Stmt := top 22
abbrev N__law_pick : List Str := ["s", "many", "digit", "cell"]
theorem sc__law_pick : FnScope N__law_pick ["s", "many"] (defScope s__law_pick) := ⟨rfl, rfl, rfl, by decide +kernel, rfl, by decide +kernel, by decide +kernel⟩
abbrev s__law_same : Stmt := top 23
abbrev N__law_same : List Str := ["answer", "due", "key", "at"]
theorem sc__law_same : FnScope N__law_same ["answer", "due"] (defScope s__law_same) := ⟨rfl, rfl, rfl, by decide +kernel, rfl, by decide +kernel, by decide +kernel⟩
abbrev s__law_keys : Stmt := top 24
abbrev N__law_keys : List Str := ["first"]
theorem sc__law_keys : FnScope N__law_keys [] (defScope s__law_keys) := ⟨rfl, rfl, rfl, by decide +kernel, rfl, by decide +kernel, by decide +kernel⟩
abbrev s__law_word : Stmt := top 25
abbrev N__law_word : List Str := ["s", "used", "letters", "many", "stem", "word", "keys", "k"]
theorem sc__law_word : FnScope N__law_word ["s", "used"] (defScope s__law_word) := ⟨rfl, rfl, rfl, by decide +kernel, rfl, by decide +kernel, by decide +kernel⟩
abbrev s__law_piece : Stmt := top 26
abbrev N__law_piece : List Str := ["s", "odd", "wide", "letters", "digits", "sort", "many", "signs", "inner", "k"]
theorem sc__law_piece : FnScope N__law_piece ["s", "odd", "wide"] (defScope s__law_piece) := ⟨rfl, rfl, rfl, by decide +kernel, rfl, by decide +kernel, by decide +kernel⟩
abbrev s__law_walk : Stmt := top 27
abbrev N__law_walk : List Str := ["text", "letters", "digits", "signs", "words", "faults", "name", "figures", "line", "row", "at", "stop", "word", "plain", "sign"]
theorem sc__law_walk : FnScope N__law_walk ["text"] (defScope s__law_walk) := ⟨rfl, rfl, rfl, by decide +kernel, rfl, by decide +kernel, by decide +kernel⟩
abbrev s__law_asked : Stmt := top 28
abbrev N__law_asked : List Str := ["name", "text", "e"]
theorem sc__law_asked : FnScope N__law_asked ["name", "text"] (defScope s__law_asked) := ⟨rfl, rfl, rfl, by decide +kernel, rfl, by decide +kernel, by decide +kernel⟩
abbrev s_law : Stmt := top 29
abbrev N_law : List Str := ["script", "s", "texts", "k", "odd", "wide", "names", "dues", "first", "j", "text"]
theorem sc_law : FnScope N_law ["script"] (defScope s_law) := ⟨rfl, rfl, rfl, by decide +kernel, rfl, by decide +kernel, by decide +kernel⟩
abbrev s_TooMany___init__ : Stmt := inClass (top 2) 0
abbrev N_TooMany___init__ : List Str := ["self", "what"]
theorem sc_TooMany___init__ : FnScope N_TooMany___init__ ["self", "what"] (defScope s_TooMany___init__) := ⟨rfl, rfl, rfl, by decide +kernel, rfl, by decide +kernel, by decide +kernel⟩
abbrev s_BadText___init__ : Stmt := inClass (top 3) 0
abbrev N_BadText___init__ : List Str := ["self", "unit", "line", "column", "what"]
theorem sc_BadText___init__ : FnScope N_BadText___init__ ["self", "unit", "line", "column", "what"] (defScope s_BadText___init__) := ⟨rfl, rfl, rfl, by decide +kernel, rfl, by decide +kernel, by decide +kernel⟩
end NL
namespace NL
open PySem L2
structure Txt (K : PySem.W.Frag) (mg : Str → Option Value) where
  b_ValueError : mg "ValueError" = none
  b_abs : mg "abs" = none
  b_all : mg "all" = none
  b_bool : mg "bool" = none
  b_int : mg "int" = none
  b_isinstance : mg "isinstance" = none
  b_len : mg "len" = none
  b_list : mg "list" = none
  b_min : mg "min" = none
  b_range : mg "range" = none
  b_str : mg "str" = none
  b_tuple : mg "tuple" = none
  z_SIGNS : Tok
  c_SIGNS : mg "SIGNS" = some (.int 20000 z_SIGNS)
  z_NAME : Tok
  c_NAME : mg "NAME" = some (.int 16 z_NAME)
  z_FIGURES : Tok
  c_FIGURES : mg "FIGURES" = some (.int 9 z_FIGURES)
  z_SMALL : Tok
  c_SMALL : mg "SMALL" = some (.str strSMALL z_SMALL)
  z_DIGITS : Tok
  c_DIGITS : mg "DIGITS" = some (.str strDIGITS z_DIGITS)
  a_KEYS : Addr
  c_KEYS : mg "KEYS" = some (.ref a_KEYS)
  q_KEYS : ∀ H : Hp, SqT K H a_KEYS keysV
  a_LeftError : Addr
  m_LeftError : mg "LeftError" = some (.ref a_LeftError)
  ec_LeftError : ExcX K a_LeftError
  oi_LeftError : OwnI K mg "LeftError" a_LeftError
  a_TooMany : Addr
  m_TooMany : mg "TooMany" = some (.ref a_TooMany)
  ec_TooMany : ExcX K a_TooMany
  nf_TooMany_what : PySem.W.findIn K (.ref a_TooMany) "what" = some none
  a_BadText : Addr
  m_BadText : mg "BadText" = some (.ref a_BadText)
  ec_BadText : ExcX K a_BadText
  nf_BadText_unit : PySem.W.findIn K (.ref a_BadText) "unit" = some none
  nf_BadText_line : PySem.W.findIn K (.ref a_BadText) "line" = some none
  nf_BadText_column : PySem.W.findIn K (.ref a_BadText) "column" = some none
  nf_BadText_what : PySem.W.findIn K (.ref a_BadText) "what" = some none
  f_all_in : Addr
  fd_all_in : FuncData
  F_all_in : Fun K "all_in" "all_in" s_all_in f_all_in fd_all_in
  m_all_in : mg "all_in" = some (.ref f_all_in)
  f_run_sort : Addr
  fd_run_sort : FuncData
  F_run_sort : Fun K "run_sort" "run_sort" s_run_sort f_run_sort fd_run_sort
  m_run_sort : mg "run_sort" = some (.ref f_run_sort)
  f_run_end : Addr
  fd_run_end : FuncData
  F_run_end : Fun K "run_end" "run_end" s_run_end f_run_end fd_run_end
  m_run_end : mg "run_end" = some (.ref f_run_end)
  f_line_words : Addr
  fd_line_words : FuncData
  F_line_words : Fun K "line_words" "line_words" s_line_words f_line_words fd_line_words
  m_line_words : mg "line_words" = some (.ref f_line_words)
  f_bare_row : Addr
  fd_bare_row : FuncData
  F_bare_row : Fun K "bare_row" "bare_row" s_bare_row f_bare_row fd_bare_row
  m_bare_row : mg "bare_row" = some (.ref f_bare_row)
  f_long_run : Addr
  fd_long_run : FuncData
  F_long_run : Fun K "long_run" "long_run" s_long_run f_long_run fd_long_run
  m_long_run : mg "long_run" = some (.ref f_long_run)
  f_check_sizes : Addr
  fd_check_sizes : FuncData
  F_check_sizes : Fun K "check_sizes" "check_sizes" s_check_sizes f_check_sizes fd_check_sizes
  m_check_sizes : mg "check_sizes" = some (.ref f_check_sizes)
  f_text_words : Addr
  fd_text_words : FuncData
  F_text_words : Fun K "text_words" "text_words" s_text_words f_text_words fd_text_words
  m_text_words : mg "text_words" = some (.ref f_text_words)
  f_token_rows : Addr
  fd_token_rows : FuncData
  F_token_rows : Fun K "token_rows" "token_rows" s_token_rows f_token_rows fd_token_rows
  m_token_rows : mg "token_rows" = some (.ref f_token_rows)
  f__law_open : Addr
  fd__law_open : FuncData
  F__law_open : Fun K "_law_open" "_law_open" s__law_open f__law_open fd__law_open
  m__law_open : mg "_law_open" = some (.ref f__law_open)
  f__law_pick : Addr
  fd__law_pick : FuncData
  F__law_pick : Fun K "_law_pick" "_law_pick" s__law_pick f__law_pick fd__law_pick
  m__law_pick : mg "_law_pick" = some (.ref f__law_pick)
  f__law_same : Addr
  fd__law_same : FuncData
  F__law_same : Fun K "_law_same" "_law_same" s__law_same f__law_same fd__law_same
  m__law_same : mg "_law_same" = some (.ref f__law_same)
  f__law_keys : Addr
  fd__law_keys : FuncData
  F__law_keys : Fun K "_law_keys" "_law_keys" s__law_keys f__law_keys fd__law_keys
  m__law_keys : mg "_law_keys" = some (.ref f__law_keys)
  f__law_word : Addr
  fd__law_word : FuncData
  F__law_word : Fun K "_law_word" "_law_word" s__law_word f__law_word fd__law_word
  m__law_word : mg "_law_word" = some (.ref f__law_word)
  f__law_piece : Addr
  fd__law_piece : FuncData
  F__law_piece : Fun K "_law_piece" "_law_piece" s__law_piece f__law_piece fd__law_piece
  m__law_piece : mg "_law_piece" = some (.ref f__law_piece)
  f__law_walk : Addr
  fd__law_walk : FuncData
  F__law_walk : Fun K "_law_walk" "_law_walk" s__law_walk f__law_walk fd__law_walk
  m__law_walk : mg "_law_walk" = some (.ref f__law_walk)
  f__law_asked : Addr
  fd__law_asked : FuncData
  F__law_asked : Fun K "_law_asked" "_law_asked" s__law_asked f__law_asked fd__law_asked
  m__law_asked : mg "_law_asked" = some (.ref f__law_asked)
  f_law : Addr
  fd_law : FuncData
  F_law : Fun K "law" "law" s_law f_law fd_law
  m_law : mg "law" = some (.ref f_law)
  f_TooMany___init__ : Addr
  fd_TooMany___init__ : FuncData
  F_TooMany___init__ : Fun K "__init__" "TooMany.__init__" s_TooMany___init__ f_TooMany___init__ fd_TooMany___init__
  ox_TooMany : OexC K a_TooMany
  ii_TooMany : PySem.W.findIn K (.ref a_TooMany) "__init__" = some (some (.ref f_TooMany___init__))
  ti_TooMany : PySem.W.typeIn K (.ref f_TooMany___init__) = some (.type "function")
  f_BadText___init__ : Addr
  fd_BadText___init__ : FuncData
  F_BadText___init__ : Fun K "__init__" "BadText.__init__" s_BadText___init__ f_BadText___init__ fd_BadText___init__
  ox_BadText : OexC K a_BadText
  ii_BadText : PySem.W.findIn K (.ref a_BadText) "__init__" = some (some (.ref f_BadText___init__))
  ti_BadText : PySem.W.typeIn K (.ref f_BadText___init__) = some (.type "function")
section
variable {K : PySem.W.Frag} {mg : Str → Option Value}
theorem Txt.B_all_in (T : Txt K mg) : Binds K T.fd_all_in ["word", "signs"] [] := T.F_all_in.binds fun _ _ _ _ _ _ us hl => match us, hl with | [_, _], _ => rfl
theorem Txt.B_run_sort (T : Txt K mg) : Binds K T.fd_run_sort ["word"] [] := T.F_run_sort.binds fun _ _ _ _ _ _ us hl => match us, hl with | [_], _ => rfl
theorem Txt.B_run_end (T : Txt K mg) : Binds K T.fd_run_end ["row", "start"] [] := T.F_run_end.binds fun _ _ _ _ _ _ us hl => match us, hl with | [_, _], _ => rfl
theorem Txt.B_line_words (T : Txt K mg) : Binds K T.fd_line_words ["row", "line"] [] := T.F_line_words.binds fun _ _ _ _ _ _ us hl => match us, hl with | [_, _], _ => rfl
theorem Txt.B_bare_row (T : Txt K mg) : Binds K T.fd_bare_row ["row"] [] := T.F_bare_row.binds fun _ _ _ _ _ _ us hl => match us, hl with | [_], _ => rfl
theorem Txt.B_long_run (T : Txt K mg) : Binds K T.fd_long_run ["text", "number"] [] := T.F_long_run.binds fun _ _ _ _ _ _ us hl => match us, hl with | [_, _], _ => rfl
theorem Txt.B_check_sizes (T : Txt K mg) : Binds K T.fd_check_sizes ["texts"] [] := T.F_check_sizes.binds fun _ _ _ _ _ _ us hl => match us, hl with | [_], _ => rfl
theorem Txt.B_text_words (T : Txt K mg) : Binds K T.fd_text_words ["text"] [] := T.F_text_words.binds fun _ _ _ _ _ _ us hl => match us, hl with | [_], _ => rfl
theorem Txt.B_token_rows (T : Txt K mg) : Binds K T.fd_token_rows ["name", "text"] [] := T.F_token_rows.binds fun _ _ _ _ _ _ us hl => match us, hl with | [_, _], _ => rfl
theorem Txt.B__law_open (T : Txt K mg) : Binds K T.fd__law_open ["script"] [] := T.F__law_open.binds fun _ _ _ _ _ _ us hl => match us, hl with | [_], _ => rfl
theorem Txt.B__law_pick (T : Txt K mg) : Binds K T.fd__law_pick ["s", "many"] [] := T.F__law_pick.binds fun _ _ _ _ _ _ us hl => match us, hl with | [_, _], _ => rfl
theorem Txt.B__law_same (T : Txt K mg) : Binds K T.fd__law_same ["answer", "due"] [] := T.F__law_same.binds fun _ _ _ _ _ _ us hl => match us, hl with | [_, _], _ => rfl
theorem Txt.B__law_keys (T : Txt K mg) : Binds K T.fd__law_keys [] [] := T.F__law_keys.binds fun _ _ _ _ _ _ us hl => match us, hl with | [], _ => rfl
theorem Txt.B__law_word (T : Txt K mg) : Binds K T.fd__law_word ["s", "used"] [] := T.F__law_word.binds fun _ _ _ _ _ _ us hl => match us, hl with | [_, _], _ => rfl
theorem Txt.B__law_piece (T : Txt K mg) : Binds K T.fd__law_piece ["s", "odd", "wide"] [] := T.F__law_piece.binds fun _ _ _ _ _ _ us hl => match us, hl with | [_, _, _], _ => rfl
theorem Txt.B__law_walk (T : Txt K mg) : Binds K T.fd__law_walk ["text"] [] := T.F__law_walk.binds fun _ _ _ _ _ _ us hl => match us, hl with | [_], _ => rfl
theorem Txt.B__law_asked (T : Txt K mg) : Binds K T.fd__law_asked ["name", "text"] [] := T.F__law_asked.binds fun _ _ _ _ _ _ us hl => match us, hl with | [_, _], _ => rfl
theorem Txt.B_law (T : Txt K mg) : Binds K T.fd_law ["script"] [] := T.F_law.binds fun _ _ _ _ _ _ us hl => match us, hl with | [_], _ => rfl
theorem Txt.B_TooMany___init__ (T : Txt K mg) : Binds K T.fd_TooMany___init__ ["self", "what"] [] := T.F_TooMany___init__.binds fun _ _ _ _ _ _ us hl => match us, hl with | [_, _], _ => rfl
theorem Txt.B_BadText___init__ (T : Txt K mg) : Binds K T.fd_BadText___init__ ["self", "unit", "line", "column", "what"] [] := T.F_BadText___init__.binds fun _ _ _ _ _ _ us hl => match us, hl with | [_, _, _, _, _], _ => rfl
end
end NL
namespace NL
open PySem L2
local macro_rules | `(tactic| walk_at "side") => `(tactic| first
  | exact rfl | ((with_reducible show _ < _); omega) | ((with_reducible show _ ≤ _); omega) | ((with_reducible show _ ≤ sizeLine); rw [sizeLine_eq]; omega) | assumption | ((with_reducible show ∃ _, _ = _); exact ⟨_, rfl⟩)
  | exact SqL.of (by assumption) | exact SqT.of (by assumption)
  | exact Or.inl (SqL.of (by assumption)) | exact Or.inr (SqT.of (by assumption)) | exact Or.inl (by assumption) | exact Or.inr (by assumption)
  | exact Or.inr (SqT.of upd_same) | exact Or.inl (SqL.of upd_same) | exact SqL.of upd_same | exact SqT.of upd_same
  | exact upd_at (by assumption) (by assumption) | exact upd_at upd_same (by assumption) | exact upd_same
  | exact upd_get (by assumption) (by assumption) | exact upd_get (Ne.symm (by assumption)) (by assumption)
  | exact SqL.of (upd_get (by assumption) (by assumption)) | exact SqL.of (upd_get (Ne.symm (by assumption)) (by assumption)) | exact Or.inl (SqL.of (upd_get (by assumption) (by assumption))) | exact Or.inl (SqL.of (upd_get (Ne.symm (by assumption)) (by assumption)))
  | exact atI_getD (by omega) | exact atI_int (by assumption)
  | ((with_reducible show List.length (_ :: _) + List.length (_ :: _) ≤ _); exact Nat.le_of_ble_eq_true rfl)
  | ((with_reducible show List.length (_ :: _) ≤ _); exact Nat.le_of_ble_eq_true rfl)
  | ((with_reducible show Str.length (_ ++ _) ≤ sizeLine); rw [sizeLine_eq]; simp only [slen_app, slen_empty]; omega)
  | ((with_reducible show List.length (List.map _ _) < _); rw [List.length_map, sizeLine_eq]; omega)
  | (rw [sizeLine_eq]; omega) | (show _ ≤ sizeLine; rw [sizeLine_eq]; omega) | (show _ < sizeLine; rw [sizeLine_eq]; omega) | omega | decide | exact Or.inl ⟨rfl, _, by walk_at "side"⟩ | exact ⟨_, rfl⟩ | exact ⟨_, SqL.of (by assumption)⟩ | exact ⟨_, SqT.of (by assumption)⟩ | exact ⟨_, SqL.of upd_same⟩ | exact ⟨_, by assumption⟩ | exact log_ok (by omega) | exact Or.inl ⟨by omega, by omega⟩ | exact Or.inr ⟨by omega, by omega⟩ | exact ⟨by omega, by omega⟩ | exact fun _ h => h)
local macro_rules | `(tactic| walk_at "ex") => `(tactic| first
  | ((with_reducible refine and_r ?_ ?_); (with_reducible exact atI_getD (by omega)); (try walk_at "ds"); walk_at "ex")
  | ((with_reducible refine and_r ?_ ?_); exact rfl; (try walk_at "ds"); walk_at "ex")
  | ((with_reducible refine and_r ?_ ?_); walk_at "side"; (try walk_at "ds"); walk_at "ex")
  | ((with_reducible refine iteT ?_); walk_at "ex")
  | ((with_reducible refine iteF ?_); walk_at "ex")
  | ((with_reducible apply fmt_vs); exact rfl; walk_at "side"; (try walk_at "ds"); walk_at "ex")
  | ((with_reducible apply fmt_vi); exact rfl; walk_at "side"; intro _; (try walk_at "ds"); walk_at "ex")
  | ((with_reducible apply Exists.intro); walk_at "ex")
  | skip)
local macro_rules | `(tactic| walk_at "ds") => `(tactic| dsimp only [ite_ff, ite_tt, mkS_len, mkS_list, tWhile_def, tFor_def, tLc_def, tSeq, tNext, tAsg, gName, tVar, tOp, tUn, tC, tRet, tRetN, tDrop, tIfS, tTest, tB, tAnd, tOr, tNot, tIf, tCB, tCons, tNil, rI, rI0, rU, rEq, rNe, tNever,
  rIxL, rIxP, rIxT, rIxS, tTup, tLst, tBM, tBM0, rAppend, tSl, tPart, tNoPart, rSlS, rSlL, tM0, tM1, rIn, tCall, tBreak, tCont, gSub, rSetL, tAug, tAugS, ipI, tAndV, tOrV, tNotV, rNewStrs, iStr, iList, iTup, iRng1, iRng2, gTup, gCons, gNil, CMul, CDiv, CDivW, CPow, rAll, rAny, rCat, tIsN, tNotN, tVeI, tOst, tMkO, tJs, tXfX, rIsX, tCallS, WE])
local macro_rules | `(tactic| walk_at "rd") => `(tactic| (try walk_at "ds"); walk_at "ex")
variable {P : Program} {w : World} {K : PySem.W.Frag} {mg : Str → Option Value} {base : Heap}
def sp_run_end : Sp := fun vs H Q _ => ∃ (r : List Nat) (k : Nat), vs = [.str (mkS r), .int k] ∧ r.length ≤ 100000 ∧ Q (.int (runEnd r k : Nat)) H
noncomputable def dv_run_end (T : Txt K mg) {cdv : Value} {A : Around} {outer : List Env} {s : Shared} {H : Hp} {E : XK} (hr : Room 0 (A.deeper (PyProof.Rows.envOfC "run_end" (defScope s_run_end) s.heap.objs.size T.f_run_end cdv))) :
  { t : TS // PSs (cxOf (CX0) P w K mg base N_run_end "run_end" (defScope s_run_end) T.f_run_end cdv A outer s H E).nox (defBody s_run_end) t } := by
  have hu := hu_of hr
  have hu65 := hu65_of hr
  exact ⟨_, (pss_cons (ps_set (i := 2) sc_run_end.nd rfl (by first | exact Or.inl rfl | exact Or.inr rfl) (pv 1))
 (pss_cons (ps_while PassesOwn.never (PW.pt (pw_and (pt_cmpR op_lt (pv 2) (pe_callB call_len_str (by rfl) T.b_len PySem.boot_len (pa_cons (pv 0) pa_nil)) (nomark _)) (pw_and1 (pt_cmpR op_in_sign (pe_ix ix_str (pv 0) (pv 2) (fun _ _ => rfl)) (pe_op op_add_str (pe_gstr rfl T.c_SMALL) (pe_gstr rfl T.c_DIGITS)) rfl))))
 (pss_one (ps_set (i := 2) sc_run_end.nd rfl (by first | exact Or.inl rfl | exact Or.inr rfl) (pe_op op_add (pv 2) pe_int))))
 (pss_one (ps_ret (pv 2)))))⟩
theorem ok_run_end (T : Txt K mg) : FnOk P w K mg base CX0 1 T.f_run_end T.fd_run_end ["row", "start"] sp_run_end := by
  refine T.F_run_end.ok sc_run_end (fun vs H Q E h => ?_) (fun cdv A outer s H vs Q E hr h => ?_)
  · obtain ⟨row, k, rfl, _⟩ := h
    rfl
  · obtain ⟨r, k, rfl, hl, q⟩ := h
    have el := sm_len
    have el2 := dg_len
    refine ⟨_, (dv_run_end T hr).2, ?_⟩
    dsimp only [dv_run_end]
    walk_at "rd"
    refine wh_by (fun m σ H' => ∃ j : Nat, m = r.length - j ∧ σ = [some (.str (mkS r)), some (.int k), some (.int j)] ∧ H' = H ∧ runEnd r j = runEnd r k) _ ⟨k, rfl, rfl, rfl, rfl⟩ ?_
    rintro m σ H' ⟨j, rfl, rfl, rfl, e⟩
    walk_at "rd"
    refine if_d (fun h1 => ?_) (fun h1 => ?_)
    · walk_at "rd"
      refine if_d (fun h2 => ?_) (fun h2 => ?_)
      · refine ex_N fun N hN => ?_
        walk_at "rd"
        exact hN (r.length - (j + 1)) _ _ (by omega) ⟨j + 1, rfl, rfl, rfl, (runEnd_go (by omega) (isRun_iff.mp h2)).trans e⟩
      · walk_at "rd"
        rw [← e, runEnd_stop (.inr (by rw [← isRun_dec]; simpa using h2))] at q
        exact q
    · walk_at "rd"
      rw [← e, runEnd_stop (.inl (by omega))] at q
      exact q
def sp_all_in : Sp := fun vs H Q _ => ∃ (r : List Nat) (z : Str), vs = [.str (mkS r), .str z] ∧ Q (.bl (r.all fun c => decide (c ∈ z.cps.toList))) H
noncomputable def dv_all_in (T : Txt K mg) {cdv : Value} {A : Around} {outer : List Env} {s : Shared} {H : Hp} {E : XK} (hr : Room 0 (A.deeper (PyProof.Rows.envOfC "all_in" (defScope s_all_in) s.heap.objs.size T.f_all_in cdv))) :
  { t : TS // PSs (cxOf (CX0) P w K mg base N_all_in "all_in" (defScope s_all_in) T.f_all_in cdv A outer s H E).nox (defBody s_all_in) t } := by
  have hu := hu_of hr
  have hu65 := hu65_of hr
  exact ⟨_, (pss_cons (ps_for PassesOwn.never rfl (pi_str (pv 0)) (pg_name (i := 2) sc_all_in.nd rfl (by first | exact Or.inl rfl | exact Or.inr rfl))
 (pss_one (ps_if (pt_cmpR op_notIn_sign (pv 2) (pv 1) rfl)
 (pss_one (ps_ret pe_bl))
 pss_nil)))
 (pss_one (ps_ret pe_bl)))⟩
theorem ok_all_in (T : Txt K mg) : FnOk P w K mg base CX0 1 T.f_all_in T.fd_all_in ["word", "signs"] sp_all_in := by
  refine T.F_all_in.ok sc_all_in (fun vs H Q E h => ?_) (fun cdv A outer s H vs Q E hr h => ?_)
  · obtain ⟨row, k, rfl, _⟩ := h
    rfl
  · obtain ⟨r, z, rfl, q⟩ := h
    refine ⟨_, (dv_all_in T hr).2, ?_⟩
    dsimp only [dv_all_in]
    walk_at "rd"
    refine for_s (fun i σ H' => ∃ x, σ = [some (.str (mkS r)), some (.str z), x] ∧ H' = H ∧ (r.take i).all (fun c => decide (c ∈ z.cps.toList)) = true) ⟨_, rfl, rfl, rfl⟩ ?_ ?_
    · rintro i c σ H' N hc ⟨x, rfl, rfl, e⟩ hN
      walk_at "rd"
      refine if_nd (fun h1 => ?_) (fun h1 => ?_)
      · walk_at "rd"
        have : (r.all fun c => decide (c ∈ z.cps.toList)) = false := by
          rw [List.all_eq_false]
          exact ⟨c, List.mem_of_getElem? hc, by simpa using h1⟩
        rw [this] at q
        exact q
      · walk_at "rd"
        refine hN _ _ ⟨_, rfl, rfl, ?_⟩
        rw [List.take_add_one, List.all_append, e]
        rw [mkS_list] at hc
        rw [hc]
        simpa using h1
    · rintro σ H' ⟨x, rfl, rfl, e⟩
      walk_at "rd"
      rw [mkS_list, List.take_length] at e
      rw [e] at q
      exact q
def sp_bare_row : Sp := fun vs H Q _ => ∃ (r : List Nat), vs = [.str (mkS r)] ∧ r.length ≤ 100000 ∧ Q (.str (mkS (bare r))) H
noncomputable def dv_bare_row (T : Txt K mg) {cdv : Value} {A : Around} {outer : List Env} {s : Shared} {H : Hp} {E : XK} (hr : Room 0 (A.deeper (PyProof.Rows.envOfC "bare_row" (defScope s_bare_row) s.heap.objs.size T.f_bare_row cdv))) :
  { t : TS // PSs (cxOf (CX0) P w K mg base N_bare_row "bare_row" (defScope s_bare_row) T.f_bare_row cdv A outer s H E).nox (defBody s_bare_row) t } := by
  have hu := hu_of hr
  have hu65 := hu65_of hr
  exact ⟨_, (pss_cons (ps_set (i := 1) sc_bare_row.nd rfl (by first | exact Or.inl rfl | exact Or.inr rfl) (pe_m1 PySem.F.slot_str_find PySem.F.type_str_find mt_find (pv 0) pe_str))
 (pss_one (ps_ret (pe_ifExp (pt_cmpR op_lt (pv 1) pe_int (nomark _)) (pv 0) (pe_slice sl_str (pv 0) po_none (po_some (pv 1)))))))⟩
theorem ok_bare_row (T : Txt K mg) : FnOk P w K mg base CX0 1 T.f_bare_row T.fd_bare_row ["row"] sp_bare_row := by
  refine T.F_bare_row.ok sc_bare_row (fun vs H Q E h => ?_) (fun cdv A outer s H vs Q E hr h => ?_)
  · obtain ⟨row, rfl, _⟩ := h
    rfl
  · obtain ⟨r, rfl, hl, q⟩ := h
    refine ⟨_, (dv_bare_row T hr).2, ?_⟩
    dsimp only [dv_bare_row]
    have key := find_c r 35
    rw [← hash_str] at key
    walk_at "rd"
    refine if_d (fun h1 => ?_) (fun h1 => ?_)
    · walk_at "rd"
      rcases key with ⟨k1, k2⟩ | ⟨i, k1, k2⟩
      · unfold bare at q; rw [k2] at q; exact q
      · rw [k1] at h1; omega
    · walk_at "rd"
      rcases key with ⟨k1, k2⟩ | ⟨i, k1, k2⟩
      · rw [k1] at h1; exact absurd h1 (by decide)
      · unfold bare at q; rw [k2] at q; rw [k1, cut_to]; exact q
def sp_run_sort : Sp := fun vs H Q _ => ∃ (r : List Nat), vs = [.str (mkS r)] ∧ 0 < r.length ∧ r.length ≤ 100000 ∧ Q (.str (runSort r)) H
noncomputable def dv_run_sort (T : Txt K mg) {cdv : Value} {A : Around} {outer : List Env} {s : Shared} {H : Hp} {E : XK} (hr : Room 1 (A.deeper (PyProof.Rows.envOfC "run_sort" (defScope s_run_sort) s.heap.objs.size T.f_run_sort cdv))) :
  { t : TS // PSs (cxOf (CX0) P w K mg base N_run_sort "run_sort" (defScope s_run_sort) T.f_run_sort cdv A outer s H E).nox (defBody s_run_sort) t } := by
  have hu := hu_of hr
  have hu65 := hu65_of hr
  exact ⟨_, (pss_cons (ps_if (pt_cmpR op_in_sign (pe_ix ix_str (pv 0) pe_int (fun _ _ => rfl)) (pe_gstr rfl T.c_SMALL) rfl)
 (pss_one (ps_ret (pe_ifExp (pt_cmpR op_in_seq (pv 0) (pe_gref rfl T.c_KEYS) rfl) pe_str pe_str)))
 pss_nil)
 (pss_cons (ps_if (PW.pt (pw_and (pt_val (pe_call (ok_all_in T) (hr.mono (by decide)) rfl T.m_all_in T.F_all_in.kp T.B_all_in .nil pass0 (pa_cons (pv 0) (pa_cons (pe_gstr rfl T.c_DIGITS) pa_nil)))) (pw_and1 (PW.pt (pw_or (pt_cmpR op_eq (pv 0) pe_str (nomark _)) (pw_or1 (pt_cmpR op_ne (pe_ix ix_str (pv 0) pe_int (fun _ _ => rfl)) pe_str (nomark _))))))))
 (pss_one (ps_ret pe_str))
 pss_nil)
 (pss_one (ps_ret pe_str))))⟩
theorem ok_run_sort (T : Txt K mg) : FnOk P w K mg base CX0 2 T.f_run_sort T.fd_run_sort ["word"] sp_run_sort := by
  refine T.F_run_sort.ok sc_run_sort (fun vs H Q E h => ?_) (fun cdv A outer s H vs Q E hr h => ?_)
  · obtain ⟨row, rfl, _⟩ := h
    rfl
  · obtain ⟨r, rfl, h0, hl, q⟩ := h
    refine ⟨_, (dv_run_sort T hr).2, ?_⟩
    dsimp only [dv_run_sort]
    have hq := T.q_KEYS H
    have hf := keys_flat
    have at0 : atI r (0 : Int) = some (r.getD 0 0) := atI_getD h0
    unfold runSort at q
    walk_at "rd"
    refine if_c (fun h1 => ?_) (fun h1 => ?_)
    · rw [if_pos (show isSm (r.getD 0 0) = true from h1)] at q
      walk_at "rd"
      refine if_c (fun h2 => ?_) (fun h2 => ?_)
      · rw [if_pos (show kIn r = true from h2)] at q
        exact q
      · rw [if_neg (by rw [show kIn r = false from h2]; decide)] at q
        exact q
    · rw [if_neg (by rw [show isSm (r.getD 0 0) = false from h1]; decide)] at q
      walk_at "rd"
      refine ⟨r, strDIGITS, rfl, ?_⟩
      walk_at "rd"
      refine if_c (fun h2 => ?_) (fun h2 => ?_)
      · have e2 : r.all isDg = true := h2
        rw [e2, Bool.true_and] at q
        walk_at "rd"
        refine if_d (fun h3 => ?_) (fun h3 => ?_)
        · have e3 : r = [48] := mkS_inj ((V.str.inj h3).trans zero_str)
          rw [decide_eq_true e3, Bool.true_or, if_pos rfl] at q
          exact q
        · have e3 : r ≠ [48] := fun z => h3 (by rw [z, zero_str])
          rw [decide_eq_false e3, Bool.false_or] at q
          walk_at "rd"
          rw [zero_str]
          refine if_nd (fun h4 => ?_) (fun h4 => ?_)
          · rw [decide_eq_false (fun z => h4 (by rw [z]; rfl)), Bool.not_false, if_pos rfl] at q
            exact q
          · rw [decide_eq_true (one_str.mp h4), Bool.not_true, if_neg (by decide)] at q
            exact q
      · have e2 : r.all isDg = false := h2
        rw [e2, Bool.false_and, if_neg (by decide)] at q
        walk_at "rd"
        exact q
def sp_line_words (K : PySem.W.Frag) : Sp := fun vs H Q _ => ∃ (r : List Nat) (line : Nat) (S : Hp), vs = [.str (mkS r), .int line] ∧ r.length ≤ 100000 ∧ Same S H ∧
  ∀ p xs S' H', Ext S H S' H' → H p = none → S' p = some (.lst xs) → DpAll K S' xs (lineToks line r) → Q (.ref p) H'
noncomputable def dv_line_words (T : Txt K mg) {cdv : Value} {A : Around} {outer : List Env} {s : Shared} {H : Hp} {E : XK} (hr : Room 2 (A.deeper (PyProof.Rows.envOfC "line_words" (defScope s_line_words) s.heap.objs.size T.f_line_words cdv))) :
  { t : TS // PSs (cxOf (CX0) P w K mg base N_line_words "line_words" (defScope s_line_words) T.f_line_words cdv A outer s H E).nox (defBody s_line_words) t } := by
  have hu := hu_of hr
  have hu65 := hu65_of hr
  exact ⟨_, (pss_cons (ps_set (i := 2) sc_line_words.nd rfl (by first | exact Or.inl rfl | exact Or.inr rfl) (pe_lst pa_nil))
 (pss_cons (ps_set (i := 3) sc_line_words.nd rfl (by first | exact Or.inl rfl | exact Or.inr rfl) pe_int)
 (pss_cons (ps_while PassesOwn.never (PW.pt (pw_and (pt_cmpR op_lt (pv 3) (pe_callB call_len_str (by rfl) T.b_len PySem.boot_len (pa_cons (pv 0) pa_nil)) (nomark _)) (pw_and1 (pt_cmpR op_ne (pe_ix ix_str (pv 0) (pv 3) (fun _ _ => rfl)) pe_str (nomark _)))))
 (pss_cons (ps_set (i := 4) sc_line_words.nd rfl (by first | exact Or.inl rfl | exact Or.inr rfl) (pe_ix ix_str (pv 0) (pv 3) (fun _ _ => rfl)))
 (pss_one (ps_if (pt_cmpR op_in_sign (pv 4) (pe_op op_add_str (pe_gstr rfl T.c_SMALL) (pe_gstr rfl T.c_DIGITS)) rfl)
 (pss_cons (ps_set (i := 5) sc_line_words.nd rfl (by first | exact Or.inl rfl | exact Or.inr rfl) (pe_call (ok_run_end T) (hr.mono (by decide)) rfl T.m_run_end T.F_run_end.kp T.B_run_end .nil pass0 (pa_cons (pv 0) (pa_cons (pv 3) pa_nil))))
 (pss_cons (ps_set (i := 6) sc_line_words.nd rfl (by first | exact Or.inl rfl | exact Or.inr rfl) (pe_slice sl_str (pv 0) (po_some (pv 3)) (po_some (pv 5))))
 (pss_cons (ps_set (i := 7) sc_line_words.nd rfl (by first | exact Or.inl rfl | exact Or.inr rfl) (pe_call (ok_run_sort T) (hr.mono (by decide)) rfl T.m_run_sort T.F_run_sort.kp T.B_run_sort .nil pass0 (pa_cons (pv 6) pa_nil)))
 (pss_cons (ps_expr (pe_bm PySem.F.plainAttrs_list PySem.F.slot_list_append PySem.F.type_list_append mt_append (pv 2) (pa_cons (pe_tup (pa_cons (pv 1) (pa_cons (pe_op op_add (pv 3) pe_int) (pa_cons (pv 7) (pa_cons (pe_ifExp (pt_cmpR op_eq (pv 7) pe_str (nomark _)) pe_str (pv 6)) pa_nil))))) pa_nil)))
 (pss_one (ps_set (i := 3) sc_line_words.nd rfl (by first | exact Or.inl rfl | exact Or.inr rfl) (pv 5)))))))
 (pss_one (ps_if (pt_cmpR op_eq (pe_slice sl_str (pv 0) (po_some (pv 3)) (po_some (pe_op op_add (pv 3) pe_int))) pe_str (nomark _))
 (pss_cons (ps_expr (pe_bm PySem.F.plainAttrs_list PySem.F.slot_list_append PySem.F.type_list_append mt_append (pv 2) (pa_cons (pe_tup (pa_cons (pv 1) (pa_cons (pe_op op_add (pv 3) pe_int) (pa_cons pe_str (pa_cons pe_str pa_nil))))) pa_nil)))
 (pss_one (ps_set (i := 3) sc_line_words.nd rfl (by first | exact Or.inl rfl | exact Or.inr rfl) (pe_op op_add (pv 3) pe_int))))
 (pss_cons (ps_if (pt_cmpR op_in_seq (pv 4) (pe_tup (pa_cons pe_str (pa_cons pe_str (pa_cons pe_str (pa_cons pe_str pa_nil))))) rfl)
 (pss_one (ps_expr (pe_bm PySem.F.plainAttrs_list PySem.F.slot_list_append PySem.F.type_list_append mt_append (pv 2) (pa_cons (pe_tup (pa_cons (pv 1) (pa_cons (pe_op op_add (pv 3) pe_int) (pa_cons pe_str (pa_cons (pv 4) pa_nil))))) pa_nil))))
 (pss_one (ps_if (pt_cmpR op_ne (pv 4) pe_str (nomark _))
 (pss_one (ps_expr (pe_bm PySem.F.plainAttrs_list PySem.F.slot_list_append PySem.F.type_list_append mt_append (pv 2) (pa_cons (pe_tup (pa_cons (pv 1) (pa_cons (pe_op op_add (pv 3) pe_int) (pa_cons pe_str (pa_cons pe_str pa_nil))))) pa_nil))))
 pss_nil)))
 (pss_one (ps_set (i := 3) sc_line_words.nd rfl (by first | exact Or.inl rfl | exact Or.inr rfl) (pe_op op_add (pv 3) pe_int))))))))))
 (pss_one (ps_ret (pv 2))))))⟩
theorem ok_line_words (T : Txt K mg) : FnOk P w K mg base CX0 3 T.f_line_words T.fd_line_words ["row", "line"] (sp_line_words K) := by
  refine T.F_line_words.ok sc_line_words (fun vs H Q E h => ?_) (fun cdv A outer s H vs Q E hr h => ?_)
  · obtain ⟨row, line, S, rfl, _⟩ := h
    rfl
  · obtain ⟨r, line, S, rfl, hl, hS, q⟩ := h
    refine ⟨_, (dv_line_words T hr).2, ?_⟩
    dsimp only [dv_line_words]
    have el := sm_len
    have el2 := dg_len
    walk_at "rd"
    intro p hp
    walk_at "rd"
    refine wh_by (fun m σ H' => ∃ (j : Nat) (vs : List V) (ds : List (Nat × Str × Str)) (S' : Hp) (x4 x5 x6 x7 : Option V), m = r.length - j ∧ j ≤ r.length ∧ vs.length ≤ j ∧
      σ = [some (.str (mkS r)), some (.int line), some (.ref p), some (.int j), x4, x5, x6, x7] ∧ Ext S H S' H' ∧ S' p = none ∧ H' p = some (.lst vs) ∧ DpAll K S' vs (ds.map (tokL line)) ∧ ds ++ toks r j = toks r 0) _
      ⟨0, [], [], S, none, none, none, none, rfl, Nat.zero_le _, Nat.le_refl _, rfl, (Ext.refl hS).mut hp (Same.free hS hp), Same.free hS hp, upd_same, .nil, rfl⟩ ?_
    rintro m σ H' ⟨j, vs, ds, S', x4, x5, x6, x7, rfl, hj, hvl, rfl, X, np, hat, hD, e⟩
    have fin : (j < r.length ∧ r.getD j 0 ≠ 35) ∨ Q (.ref p) H' := by
      by_cases hc : j < r.length ∧ r.getD j 0 ≠ 35
      · exact .inl hc
      · right
        rw [toks_end hc, List.append_nil] at e
        subst e
        exact q p vs _ _ (X.freeze hp np hat) hp upd_same (DpAll.mono (Same.upd np) hD)
    walk_at "rd"
    refine if_d (fun h1 => ?_) (fun h1 => ?_)
    · walk_at "rd"
      refine if_nd (fun h2 => ?_) (fun h2 => ?_)
      · have hc : r.getD j 0 ≠ 35 := fun z => h2 (is_hash.mpr z)
        have hj1 : j < r.length := by omega
        refine ex_N fun N hN => ?_
        walk_at "rd"
        rw [isRun_dec]
        refine if_c (fun h3 => ?_) (fun h3 => ?_)
        · have hgt := runEnd_gt hj1 h3
          have hle := runEnd_le hj
          walk_at "rd"
          refine ⟨r, j, rfl, hl, ?_⟩
          walk_at "rd"
          refine ⟨wordAt r j (runEnd r j), by rw [cut_some]; rfl, by rw [wordAt_len hgt hle]; omega, by rw [wordAt_len hgt hle]; omega, ?_⟩
          walk_at "rd"
          have e1 : runSort (wordAt r j (runEnd r j)) = "bad" → ds ++ [(j, runSort (wordAt r j (runEnd r j)), ("number" : Str))] ++ toks r (runEnd r j) = toks r 0 := fun z => by
            rw [← e, toks_run hj1 hc h3, if_pos z, List.append_assoc]; rfl
          have e2 : ¬ runSort (wordAt r j (runEnd r j)) = "bad" → ds ++ [(j, runSort (wordAt r j (runEnd r j)), mkS (wordAt r j (runEnd r j)))] ++ toks r (runEnd r j) = toks r 0 := fun z => by
            rw [← e, toks_run hj1 hc h3, if_neg z, List.append_assoc]; rfl
          refine if_d (fun h4 => ?_) (fun h4 => ?_)
          · walk_at "rd"
            intro q1 hq1
            walk_at "rd"
            obtain ⟨a1, a2, a3, a4⟩ := snoc_tup X hp np hat hD hq1 (xs := [.int line, .int ((j : Int) + 1), .str (runSort (wordAt r j (runEnd r j))), .str "number"]) (es := [.int line, .int ((j : Int) + 1), .str (runSort (wordAt r j (runEnd r j))), .str ("number" : Str)]) (.cons (.int _) (.cons (.int _) (.cons (.str _) (.cons (.str _) .nil))))
            refine hN (r.length - runEnd r j) _ _ (by omega) ⟨runEnd r j, _, ds ++ [(j, (runSort (wordAt r j (runEnd r j))), ("number" : Str))], _, _, _, _, _, rfl, by omega, by simp; omega, rfl, a1, a2, a3, by rw [List.map_append]; exact a4, ?_⟩
            exact e1 (V.str.inj h4)
          · walk_at "rd"
            rw [cut_some]
            walk_at "rd"
            intro q1 hq1
            walk_at "rd"
            obtain ⟨a1, a2, a3, a4⟩ := snoc_tup X hp np hat hD hq1 (xs := [.int line, .int ((j : Int) + 1), .str (runSort (wordAt r j (runEnd r j))), .str (mkS (wordAt r j (runEnd r j)))]) (es := [.int line, .int ((j : Int) + 1), .str (runSort (wordAt r j (runEnd r j))), .str (mkS (wordAt r j (runEnd r j)))]) (.cons (.int _) (.cons (.int _) (.cons (.str _) (.cons (.str _) .nil))))
            refine hN (r.length - runEnd r j) _ _ (by omega) ⟨runEnd r j, _, ds ++ [(j, (runSort (wordAt r j (runEnd r j))), (mkS (wordAt r j (runEnd r j))))], _, _, _, _, _, rfl, by omega, by simp; omega, rfl, a1, a2, a3, by rw [List.map_append]; exact a4, ?_⟩
            exact e2 fun z => h4 (by rw [z])
        · walk_at "rd"
          rw [cut_two]
          refine if_d (fun h4 => ?_) (fun h4 => ?_)
          · have h5 := is_arrow.mp h4
            have h6 := arrow_lt h5
            walk_at "rd"
            intro q1 hq1
            walk_at "rd"
            obtain ⟨a1, a2, a3, a4⟩ := snoc_tup X hp np hat hD hq1 (xs := [.int line, .int ((j : Int) + 1), .str ("sign" : Str), .str ("->" : Str)]) (es := [.int line, .int ((j : Int) + 1), .str ("sign" : Str), .str ("->" : Str)]) (.cons (.int _) (.cons (.int _) (.cons (.str _) (.cons (.str _) .nil))))
            refine hN (r.length - (j + 2)) _ _ (by omega) ⟨j + 2, _, ds ++ [(j, ("sign" : Str), ("->" : Str))], _, _, _, _, _, rfl, by omega, by simp; omega, rfl, a1, a2, a3, by rw [List.map_append]; exact a4, ?_⟩
            rw [← e, toks_arrow hj1 hc h3 h5, List.append_assoc]; rfl
          · have h5 : ¬ (r.drop j).take 2 = [45, 62] := fun z => h4 (is_arrow.mpr z)
            walk_at "rd"
            intro q0 hq0
            walk_at "rd"
            have X0 := X
            have hat0 := hat
            replace X := X0.newH (o := HO.tup signsV) hq0
            replace hat : upd H' q0 (HO.tup signsV) p = some (.lst vs) := upd_at hat0 hq0
            refine if_c (fun h6 => ?_) (fun h6 => ?_)
            · walk_at "rd"
              intro q1 hq1
              walk_at "rd"
              obtain ⟨a1, a2, a3, a4⟩ := snoc_tup X hp np hat hD hq1 (xs := [.int line, .int ((j : Int) + 1), .str ("sign" : Str), .str (⟨#[r.getD j 0]⟩ : Str)]) (es := [.int line, .int ((j : Int) + 1), .str ("sign" : Str), .str (⟨#[r.getD j 0]⟩ : Str)]) (.cons (.int _) (.cons (.int _) (.cons (.str _) (.cons (.str _) .nil))))
              refine hN (r.length - (j + 1)) _ _ (by omega) ⟨j + 1, _, ds ++ [(j, ("sign" : Str), (⟨#[r.getD j 0]⟩ : Str))], _, _, _, _, _, rfl, by omega, by simp; omega, rfl, a1, a2, a3, by rw [List.map_append]; exact a4, ?_⟩
              rw [← e, toks_sg hj1 hc h3 h5 h6, List.append_assoc]; rfl
            · walk_at "rd"
              refine if_nd (fun h7 => ?_) (fun h7 => ?_)
              · walk_at "rd"
                intro q1 hq1
                walk_at "rd"
                obtain ⟨a1, a2, a3, a4⟩ := snoc_tup X hp np hat hD hq1 (xs := [.int line, .int ((j : Int) + 1), .str ("bad" : Str), .str ("sign" : Str)]) (es := [.int line, .int ((j : Int) + 1), .str ("bad" : Str), .str ("sign" : Str)]) (.cons (.int _) (.cons (.int _) (.cons (.str _) (.cons (.str _) .nil))))
                refine hN (r.length - (j + 1)) _ _ (by omega) ⟨j + 1, _, ds ++ [(j, ("bad" : Str), ("sign" : Str))], _, _, _, _, _, rfl, by omega, by simp; omega, rfl, a1, a2, a3, by rw [List.map_append]; exact a4, ?_⟩
                rw [← e, toks_odd hj1 hc h3 h5 h6 (fun z => h7 (is_blank.mpr z)), List.append_assoc]; rfl
              · walk_at "rd"
                exact hN (r.length - (j + 1)) _ _ (by omega) ⟨j + 1, _, ds, _, _, _, _, _, rfl, by omega, by omega, rfl, X, np, hat, hD, by rw [← e, toks_blank hj1 hc h3 h5 h6 (fun z => z (is_blank.mp h7))]⟩
      · rcases fin with h3 | h3
        · exact absurd (is_hash.mp h2) h3.2
        · walk_at "rd"
          exact h3
    · walk_at "rd"
      rcases fin with h2 | h2
      · exact absurd h2.1 (by omega)
      · exact h2
def sp_long_run : Sp := fun vs H Q _ => ∃ (r : List Nat) (b : Bool), vs = [.str (mkS r), .bl b] ∧ r.length ≤ 90000 ∧ ∀ H', Same H H' → Q (.bl (longText b r)) H'
noncomputable def dv_long_run (T : Txt K mg) {cdv : Value} {A : Around} {outer : List Env} {s : Shared} {H : Hp} {E : XK} (hr : Room 1 (A.deeper (PyProof.Rows.envOfC "long_run" (defScope s_long_run) s.heap.objs.size T.f_long_run cdv))) :
  { t : TS // PSs (cxOf (CX0) P w K mg base N_long_run "long_run" (defScope s_long_run) T.f_long_run cdv A outer s H E).nox (defBody s_long_run) t } := by
  have hu := hu_of hr
  have hu65 := hu65_of hr
  exact ⟨_, (pss_cons (ps_for PassesOwn.never rfl (pi_list (pe_split (pv 0) pe_str)) (pg_name (i := 2) sc_long_run.nd rfl (by first | exact Or.inl rfl | exact Or.inr rfl))
 (pss_cons (ps_set (i := 3) sc_long_run.nd rfl (by first | exact Or.inl rfl | exact Or.inr rfl) (pe_call (ok_bare_row T) (hr.mono (by decide)) rfl T.m_bare_row T.F_bare_row.kp T.B_bare_row .nil pass0 (pa_cons (pv 2) pa_nil)))
 (pss_cons (ps_set (i := 4) sc_long_run.nd rfl (by first | exact Or.inl rfl | exact Or.inr rfl) pe_int)
 (pss_one (ps_while PassesOwn.never (pt_cmpR op_lt (pv 4) (pe_callB call_len_str (by rfl) T.b_len PySem.boot_len (pa_cons (pv 3) pa_nil)) (nomark _))
 (pss_cons (ps_set (i := 5) sc_long_run.nd rfl (by first | exact Or.inl rfl | exact Or.inr rfl) (pe_call (ok_run_end T) (hr.mono (by decide)) rfl T.m_run_end T.F_run_end.kp T.B_run_end .nil pass0 (pa_cons (pv 3) (pa_cons (pv 4) pa_nil))))
 (pss_one (ps_if (pt_cmpR op_gt (pv 5) (pv 4) (nomark _))
 (pss_cons (ps_set (i := 6) sc_long_run.nd rfl (by first | exact Or.inl rfl | exact Or.inr rfl) (pe_cmpR op_in_sign (pe_ix ix_str (pv 3) (pv 4) (fun _ _ => rfl)) (pe_gstr rfl T.c_DIGITS) rfl))
 (pss_cons (ps_if (PW.pt (pw_and (pt_cmpR op_eq (pv 6) (pv 1) (nomark _)) (pw_and1 (pt_cmpR op_gt (pe_op op_sub (pv 5) (pv 4)) (pe_ifExp (pt_val (pv 1)) (pe_gint rfl T.c_FIGURES) (pe_gint rfl T.c_NAME)) (nomark _)))))
 (pss_one (ps_ret pe_bl))
 pss_nil)
 (pss_one (ps_set (i := 4) sc_long_run.nd rfl (by first | exact Or.inl rfl | exact Or.inr rfl) (pv 5)))))
 (pss_one (ps_set (i := 4) sc_long_run.nd rfl (by first | exact Or.inl rfl | exact Or.inr rfl) (pe_op op_add (pv 4) pe_int)))))))))))
 (pss_one (ps_ret pe_bl)))⟩
theorem ok_long_run (T : Txt K mg) : FnOk P w K mg base CX0 2 T.f_long_run T.fd_long_run ["text", "number"] sp_long_run := by
  refine T.F_long_run.ok sc_long_run (fun vs H Q E h => ?_) (fun cdv A outer s H vs Q E hr h => ?_)
  · obtain ⟨row, b, rfl, _⟩ := h
    rfl
  · obtain ⟨text, b, rfl, hl, q⟩ := h
    refine ⟨_, (dv_long_run T hr).2, ?_⟩
    dsimp only [dv_long_run]
    have hnl := nl_one
    walk_at "rd"
    intro p hp
    walk_at "rd"
    have hat : upd H p (.lst ((Txt.split (mkS text) "\n").map V.str)) p = _ := upd_same
    have hs1 : Same H (upd H p (.lst ((Txt.split (mkS text) "\n").map V.str))) := Same.upd hp
    rw [lines_map] at *
    refine for_l (xs := (linesOf text).map fun l => V.str (mkS l)) (fun i σ H' => ∃ (x2 x3 x4 x5 x6 : Option V), σ = [some (.str (mkS text)), some (.bl b), x2, x3, x4, x5, x6] ∧ (Same H H' ∧ H' p = some (.lst ((linesOf text).map fun l => V.str (mkS l)))) ∧ ((linesOf text).take i).any (longLine b) = false)
      ⟨_, _, _, _, _, rfl, ⟨hs1, hat⟩, rfl⟩ (fun i σ H' _ h => by obtain ⟨_, _, _, _, _, _, ⟨_, hat⟩, _⟩ := h; exact SqL.of hat) ?_ ?_
    · rintro i x σ H2 N hx ⟨x2, x3, x4, x5, x6, rfl, ⟨hs2, hat2⟩, hno⟩ hN
      rw [List.getElem?_map] at hx
      cases hl0 : (linesOf text)[i]? with
      | none => rw [hl0] at hx; cases hx
      | some l =>
      rw [hl0] at hx
      simp only [Option.map_some, Option.some.injEq] at hx
      subst hx
      have hlm : l ∈ linesOf text := List.mem_of_getElem? hl0
      have hll := linesOf_len hlm
      walk_at "rd"
      refine ⟨l, rfl, by omega, ?_⟩
      walk_at "rd"
      have hbl := bare_len (r := l)
      refine wh_by (fun m σ H' => ∃ (j : Nat) (x5 x6 : Option V), m = (bare l).length - j ∧ j ≤ (bare l).length ∧ H' = H2 ∧ σ = [some (.str (mkS text)), some (.bl b), some (.str (mkS l)), some (.str (mkS (bare l))), some (.int j), x5, x6] ∧
        ∃ pre : List (Nat × Nat), runs (bare l) 0 = pre ++ runs (bare l) j ∧ pre.any (longOne b (bare l)) = false) _ ⟨0, _, _, rfl, Nat.zero_le _, rfl, rfl, [], rfl, rfl⟩ ?_
      rintro m σ H' ⟨j, x5, x6, rfl, hj, rfl, rfl, pre, hpre, hno2⟩
      walk_at "rd"
      refine if_d (fun h1 => ?_) (fun h1 => ?_)
      · have hj1 : j < (bare l).length := by omega
        refine ex_N fun N2 hN2 => ?_
        walk_at "rd"
        refine ⟨bare l, j, rfl, by omega, ?_⟩
        walk_at "rd"
        refine if_d (fun h2 => ?_) (fun h2 => ?_)
        · have h3 : isRun ((bare l).getD j 0) = true := by
            cases h4 : isRun ((bare l).getD j 0) with
            | true => rfl
            | false => rw [runEnd_stop (.inr h4)] at h2; omega
          have hgt := runEnd_gt hj1 h3
          have hle := runEnd_le hj
          have en : runs (bare l) j = (j, runEnd (bare l) j) :: runs (bare l) (runEnd (bare l) j) := runs_run hj1 h3
          walk_at "rd"
          have hit : longOne b (bare l) (j, runEnd (bare l) j) = true → longText b text = true := fun z => by
            refine List.any_eq_true.mpr ⟨l, hlm, List.any_eq_true.mpr ⟨(j, runEnd (bare l) j), ?_, z⟩⟩
            rw [hpre, en]; simp
          have miss : longOne b (bare l) (j, runEnd (bare l) j) = false → ∃ pre : List (Nat × Nat), runs (bare l) 0 = pre ++ runs (bare l) (runEnd (bare l) j) ∧ pre.any (longOne b (bare l)) = false := fun z =>
            ⟨pre ++ [(j, runEnd (bare l) j)], by rw [hpre, en, List.append_assoc]; rfl, by rw [List.any_append, hno2]; simp [z]⟩
          refine if_d (fun h4 => ?_) (fun h4 => ?_)
          · have h5 : isDg ((bare l).getD j 0) = b := V.bl.inj h4
            walk_at "rd"
            cases b with
            | true =>
              walk_at "rd"
              refine if_d (fun h6 => ?_) (fun h6 => ?_)
              · walk_at "rd"
                rw [hit (by unfold longOne; rw [decide_eq_true h5]; simp; omega)] at q
                exact q _ hs2
              · walk_at "rd"
                exact hN2 ((bare l).length - runEnd (bare l) j) _ _ (by omega) ⟨runEnd (bare l) j, _, _, rfl, hle, rfl, rfl, miss (by unfold longOne; rw [decide_eq_true h5]; simp; omega)⟩
            | false =>
              walk_at "rd"
              refine if_d (fun h6 => ?_) (fun h6 => ?_)
              · walk_at "rd"
                rw [hit (by unfold longOne; rw [decide_eq_true h5]; simp; omega)] at q
                exact q _ hs2
              · walk_at "rd"
                exact hN2 ((bare l).length - runEnd (bare l) j) _ _ (by omega) ⟨runEnd (bare l) j, _, _, rfl, hle, rfl, rfl, miss (by unfold longOne; rw [decide_eq_true h5]; simp; omega)⟩
          · have h5 : ¬ isDg ((bare l).getD j 0) = b := fun z => h4 (congrArg V.bl z)
            walk_at "rd"
            exact hN2 ((bare l).length - runEnd (bare l) j) _ _ (by omega) ⟨runEnd (bare l) j, _, _, rfl, hle, rfl, rfl, miss (by unfold longOne; rw [decide_eq_false h5]; rfl)⟩
        · have h3 : isRun ((bare l).getD j 0) = false := by
            cases h4 : isRun ((bare l).getD j 0) with
            | false => rfl
            | true => have := runEnd_gt hj1 h4; omega
          walk_at "rd"
          exact hN2 ((bare l).length - (j + 1)) _ _ (by omega) ⟨j + 1, _, _, rfl, by omega, rfl, rfl, pre, by rw [hpre, runs_odd hj1 h3], hno2⟩
      · walk_at "rd"
        refine hN _ _ ⟨_, _, _, _, _, rfl, ⟨hs2, hat2⟩, ?_⟩
        rw [List.take_add_one, List.any_append, hno, hl0]
        rw [runs_end (k := j) (by omega), List.append_nil] at hpre
        simp [longLine, hpre, hno2]
    · rintro σ H' ⟨x2, x3, x4, x5, x6, rfl, ⟨hs2, hat2⟩, hno⟩
      walk_at "rd"
      rw [List.length_map, List.take_length] at hno
      have e : longText b text = false := hno
      rw [e] at q
      exact q _ hs2
def sp_text_words (K : PySem.W.Frag) : Sp := fun vs H Q _ => ∃ (text : List Nat) (S : Hp), vs = [.str (mkS text)] ∧ text.length ≤ 90000 ∧ Same S H ∧
  ∀ p xs S' H', Ext S H S' H' → H p = none → S' p = some (.lst xs) → DpAll K S' xs ((tokensOf text).map PyData.list) → Q (.ref p) H'
theorem tokensOf_get {text : List Nat} {i : Nat} {l : List Nat} (h : (linesOf text)[i]? = some l) : (tokensOf text).take (i + 1) = (tokensOf text).take i ++ [lineToks (i + 1) l] := by
  rw [List.take_add_one]
  unfold tokensOf
  rw [List.getElem?_mapIdx, h]; rfl
noncomputable def dv_text_words (T : Txt K mg) {cdv : Value} {A : Around} {outer : List Env} {s : Shared} {H : Hp} {E : XK} (hr : Room 3 (A.deeper (PyProof.Rows.envOfC "text_words" (defScope s_text_words) s.heap.objs.size T.f_text_words cdv))) :
  { t : TS // PSs (cxOf (CX0) P w K mg base N_text_words "text_words" (defScope s_text_words) T.f_text_words cdv A outer s H E).nox (defBody s_text_words) t } := by
  have hu := hu_of hr
  have hu65 := hu65_of hr
  exact ⟨_, (pss_cons (ps_set (i := 1) sc_text_words.nd rfl (by first | exact Or.inl rfl | exact Or.inr rfl) (pe_lst pa_nil))
 (pss_cons (ps_set (i := 2) sc_text_words.nd rfl (by first | exact Or.inl rfl | exact Or.inr rfl) (pe_split (pv 0) pe_str))
 (pss_cons (ps_for PassesOwn.never rfl (pi_range1 (by rfl) T.b_range (pa_cons (pe_callB call_len_seq (by rfl) T.b_len PySem.boot_len (pa_cons (pv 2) pa_nil)) pa_nil)) (pg_name (i := 3) sc_text_words.nd rfl (by first | exact Or.inl rfl | exact Or.inr rfl))
 (pss_one (ps_expr (pe_bm PySem.F.plainAttrs_list PySem.F.slot_list_append PySem.F.type_list_append mt_append (pv 1) (pa_cons (pe_call (ok_line_words T) (hr.mono (by decide)) rfl T.m_line_words T.F_line_words.kp T.B_line_words .nil pass0 (pa_cons (pe_ix ix_list (pv 2) (pv 3) (fun _ _ => rfl)) (pa_cons (pe_op op_add (pv 3) pe_int) pa_nil))) pa_nil)))))
 (pss_one (ps_ret (pv 1))))))⟩
theorem ok_text_words (T : Txt K mg) : FnOk P w K mg base CX0 4 T.f_text_words T.fd_text_words ["text"] (sp_text_words K) := by
  refine T.F_text_words.ok sc_text_words (fun vs H Q E h => ?_) (fun cdv A outer s H vs Q E hr h => ?_)
  · obtain ⟨text, S, rfl, _⟩ := h
    rfl
  · obtain ⟨text, S, rfl, hl, hS, q⟩ := h
    refine ⟨_, (dv_text_words T hr).2, ?_⟩
    dsimp only [dv_text_words]
    have hnl := nl_one
    have hnum := linesOf_num (text := text)
    walk_at "rd"
    intro p hp
    walk_at "rd"
    intro pl hpl
    rw [lines_map]
    have npl : pl ≠ p := fun z => by rw [z, upd_same] at hpl; cases hpl
    have X0 : Ext S H S (upd H p (.lst [])) := (Ext.refl hS).mut hp (Same.free hS hp)
    have X1 := X0.new (o := HO.lst ((linesOf text).map fun l => V.str (mkS l))) hpl
    have hat1 : upd (upd H p (.lst [])) pl (.lst ((linesOf text).map fun l => V.str (mkS l))) p = some (.lst []) := upd_at upd_same hpl
    have np1 : upd S pl (.lst ((linesOf text).map fun l => V.str (mkS l))) p = none := by rw [upd_ne (Ne.symm npl)]; exact Same.free hS hp
    walk_at "rd"
    simp only [List.length_map, Int.toNat_natCast]
    refine ⟨by omega, ?_⟩
    refine for_r (n := (linesOf text).length) (fun i σ H' => ∃ (x3 : Option V) (vs : List V) (S' : Hp), σ = [some (.str (mkS text)), some (.ref p), some (.ref pl), x3] ∧ vs.length = i ∧ Ext S H S' H' ∧ S' p = none ∧ H' p = some (.lst vs) ∧
      S' pl = some (.lst ((linesOf text).map fun l => V.str (mkS l))) ∧ DpAll K S' vs (((tokensOf text).take i).map PyData.list)) ⟨_, [], _, rfl, rfl, X1, np1, hat1, upd_same, .nil⟩ ?_ ?_
    · rintro i σ H' N hi ⟨x3, vs, S', rfl, hvl, X, np, hat, hpl2, hD⟩ hN
      have hpl3 := X.sub _ _ hpl2
      have hl0 : (linesOf text)[i]? = some (linesOf text)[i] := List.getElem?_eq_getElem hi
      generalize (linesOf text)[i] = l at hl0
      have hlm : l ∈ linesOf text := List.mem_of_getElem? hl0
      have hll := linesOf_len hlm
      have hat0 : atI ((linesOf text).map fun l => V.str (mkS l)) (0 + (i : Int)) = some (.str (mkS l)) := by rw [Int.zero_add]; exact atI_nat (by rw [List.getElem?_map, hl0]; rfl)
      walk_at "rd"
      refine ⟨l, i + 1, S', by rw [Int.zero_add]; rfl, by omega, X.sub, fun q1 xs S2 H2 X2 hq1 hq2 hD2 => ?_⟩
      have np2 : S2 p = none := X2.none_S np (by rw [hat]; exact fun z => nomatch z)
      have hat2 := X2.hh _ _ hat
      walk_at "rd"
      obtain ⟨a1, a2, a3, a4⟩ := snoc_dp (X.trans X2) hp np2 (DpAll.mono X2.ss hD) (vs := vs) (.lst (SqL.of hq2) hD2)
      exact hN _ _ ⟨_, _, S2, rfl, by simp [hvl], a1, a2, a3, X2.ss _ _ hpl2, by rw [tokensOf_get hl0, List.map_append]; exact a4⟩
    · rintro σ H' ⟨x3, vs, S', rfl, hvl, X, np, hat, hpl2, hD⟩
      walk_at "rd"
      have e : (tokensOf text).take (linesOf text).length = tokensOf text := List.take_of_length_le (by unfold tokensOf; simp)
      rw [e] at hD
      exact q p vs _ _ (X.freeze hp np hat) hp upd_same (DpAll.mono (Same.upd np) hD)
def sp_TooMany_init (C : Addr) : Sp := fun vs H Q _ => ∃ (a : Addr) (what : Str), vs = [.ref a, .str what] ∧ what.length ≤ 100 ∧ H a = some (exo a C none) ∧
  ∀ d, H d = none → d ≠ a → Q .non (upd (upd H d (exd d [("what", .str what)])) a (exo a C (some d)))
noncomputable def dv_TooMany___init__ (T : Txt K mg) {cdv : Value} {A : Around} {outer : List Env} {s : Shared} {H : Hp} {E : XK} (hr : Room 0 (A.deeper (PyProof.Rows.envOfC "TooMany.__init__" (defScope s_TooMany___init__) s.heap.objs.size T.f_TooMany___init__ cdv))) :
  { t : TS // PSs (cxOf (CX0) P w K mg base N_TooMany___init__ "TooMany.__init__" (defScope s_TooMany___init__) T.f_TooMany___init__ cdv A outer s H E).nox (defBody s_TooMany___init__) t } := by
  have hu := hu_of hr
  have hu65 := hu65_of hr
  exact ⟨_, (pss_cons (ps_expr (pe_ownInit T.oi_LeftError (pa_cons (pv 0) (pa_cons (pe_joined (PJ.cons pe_str (PJ.cons (pe_fmt (pv 1)) PJ.nil))) pa_nil))))
 (pss_one (ps_ost (pv 0) (pv 1) rfl)))⟩
theorem ok_TooMany___init__ (T : Txt K mg) : FnOk P w K mg base CX0 1 T.f_TooMany___init__ T.fd_TooMany___init__ ["self", "what"] (sp_TooMany_init T.a_TooMany) := by
  refine T.F_TooMany___init__.ok sc_TooMany___init__ (fun vs H Q E h => ?_) (fun cdv A outer s H vs Q E hr h => ?_)
  · obtain ⟨a, z, rfl, _⟩ := h
    rfl
  · obtain ⟨a, z, rfl, hz, ha, q⟩ := h
    refine ⟨_, (dv_TooMany___init__ T hr).2, ?_⟩
    dsimp only [dv_TooMany___init__]
    have hox := T.ox_TooMany
    have hno := T.nf_TooMany_what
    have e1 : ("too many: " : Str).length = 10 := by decide +kernel
    walk_at "rd"
    exact .inl ⟨ha, q⟩
def btFs (u : Str) (l c : Int) (z : Str) : List (Str × V) := [("what", .str z), ("column", .int c), ("line", .int l), ("unit", .str u)]
def sp_BadText_init (C : Addr) : Sp := fun vs H Q _ => ∃ (a : Addr) (u : Str) (l c : Int) (z : Str), vs = [.ref a, .str u, .int l, .int c, .str z] ∧ u.length ≤ 1000 ∧ l.natAbs < 10 ^ 9 ∧ c.natAbs < 10 ^ 9 ∧ z.length ≤ 1000 ∧ H a = some (exo a C none) ∧
  ∀ d H', H d = none → d ≠ a → H' a = some (exo a C (some d)) → H' d = some (exd d (btFs u l c z)) → (∀ b, b ≠ a → b ≠ d → H' b = H b) → Q .non H'
noncomputable def dv_BadText___init__ (T : Txt K mg) {cdv : Value} {A : Around} {outer : List Env} {s : Shared} {H : Hp} {E : XK} (hr : Room 0 (A.deeper (PyProof.Rows.envOfC "BadText.__init__" (defScope s_BadText___init__) s.heap.objs.size T.f_BadText___init__ cdv))) :
  { t : TS // PSs (cxOf (CX0) P w K mg base N_BadText___init__ "BadText.__init__" (defScope s_BadText___init__) T.f_BadText___init__ cdv A outer s H E).nox (defBody s_BadText___init__) t } := by
  have hu := hu_of hr
  have hu65 := hu65_of hr
  exact ⟨_, (pss_cons (ps_expr (pe_ownInit T.oi_LeftError (pa_cons (pv 0) (pa_cons (pe_joined (PJ.cons (pe_fmt (pv 1)) (PJ.cons pe_str (PJ.cons (pe_fmt (pv 2)) (PJ.cons pe_str (PJ.cons (pe_fmt (pv 3)) (PJ.cons pe_str (PJ.cons (pe_fmt (pv 4)) PJ.nil)))))))) pa_nil))))
 (pss_cons (ps_ost (pv 0) (pv 1) rfl)
 (pss_cons (ps_ost (pv 0) (pv 2) rfl)
 (pss_cons (ps_ost (pv 0) (pv 3) rfl)
 (pss_one (ps_ost (pv 0) (pv 4) rfl))))))⟩

theorem ok_BadText___init__ (T : Txt K mg) : FnOk P w K mg base CX0 1 T.f_BadText___init__ T.fd_BadText___init__ ["self", "unit", "line", "column", "what"] (sp_BadText_init T.a_BadText) := by
  refine T.F_BadText___init__.ok sc_BadText___init__ (fun vs H Q E h => ?_) (fun cdv A outer s H vs Q E hr h => ?_)
  · obtain ⟨a, _, _, _, z, rfl, _⟩ := h
    rfl
  · obtain ⟨a, u, l, c, z, rfl, hu1, hl, hc, hz, ha, q⟩ := h
    refine ⟨_, (dv_BadText___init__ T hr).2, ?_⟩
    dsimp only [dv_BadText___init__]
    have hox := T.ox_BadText
    have hno1 := T.nf_BadText_unit
    have hno2 := T.nf_BadText_line
    have hno3 := T.nf_BadText_column
    have hno4 := T.nf_BadText_what
    have e1 : (":" : Str).length = 1 := by decide +kernel
    have e2 : (": " : Str).length = 2 := by decide +kernel
    walk_at "rd"
    refine .inl ⟨ha, fun d hd hda => ?_⟩
    have hn : a ≠ d := Ne.symm hda
    walk_at "rd"
    refine .inr ⟨d, _, upd_same, by rw [upd_ne hda]; exact upd_same, Nat.le_of_ble_eq_true rfl, ?_⟩
    walk_at "rd"
    refine .inr ⟨d, _, by rw [upd_ne hn]; exact upd_same, upd_same, Nat.le_of_ble_eq_true rfl, ?_⟩
    walk_at "rd"
    refine .inr ⟨d, _, by rw [upd_ne hn, upd_ne hn]; exact upd_same, upd_same, Nat.le_of_ble_eq_true rfl, ?_⟩
    refine q d _ hd hda (by rw [upd_ne hn, upd_ne hn, upd_ne hn]; exact upd_same) upd_same fun b h1 h2 => ?_
    rw [upd_ne h2, upd_ne h2, upd_ne h2, upd_ne h1, upd_ne h2]
theorem raise_many {C : Addr} {H0 H : Hp} {E : XK} {what : Str} (hq : ∀ d H', Same H0 H' → H0 d = none → H' d = some (.xd [("what", .str what)]) → E (.ref C) (some d) H') (hs : Same H0 H) (hw : what.length ≤ 100) :
    ∀ a, H a = none → sp_TooMany_init C (.ref a :: ([.str what] ++ [])) (upd H a (exo a C none)) (fun v H2 => v = .non ∧ ∃ d fs, H2 a = some (exo a C (some d)) ∧ H2 d = some (exd d fs) ∧ H d = none ∧ E (.ref C) (some d) (upd (del H2 a) d (.xd fs))) (fun _ _ _ => False) := by
  intro a ha
  refine ⟨a, what, rfl, hw, upd_same, fun d hd hda => ⟨rfl, d, _, upd_same, by rw [upd_ne hda]; exact upd_same, by rw [upd_ne hda] at hd; exact hd, hq d _ (fun b o e => ?_) ?_ upd_same⟩⟩
  · have hb := hs _ _ e
    have h1 : b ≠ a := ne_of_none hb ha
    rw [upd_ne hda] at hd
    have h2 : b ≠ d := ne_of_none hb hd
    rw [upd_ne h2, del_ne h1, upd_ne h1, upd_ne h2, upd_ne h1]; exact hb
  · rw [upd_ne hda] at hd; exact Same.free hs hd
/-- the bound of signs that a text passes -/
def manyOf (text : List Nat) : Option Str := if 20000 < text.length then some "signs" else if longText false text = true then some "name" else if longText true text = true then some "figures" else none
/-- what is raised: TooMany(what) -/
def tooMany (C : Addr) (H : Hp) (E : XK) (what : Str) : Prop := ∀ d H', Same H H' → H d = none → H' d = some (.xd [("what", .str what)]) → E (.ref C) (some d) H'
def sp_check_sizes (K : PySem.W.Frag) (C : Addr) : Sp := fun vs H Q E => ∃ (a : Addr) (text : List Nat), vs = [.ref a] ∧ H a = some (.lst [.str (mkS text)]) ∧ text.length ≤ 90000 ∧
  (manyOf text = none → ∀ H', Same H H' → Q .non H') ∧ (∀ what, manyOf text = some what → tooMany C H E what)
noncomputable def dv_check_sizes (T : Txt K mg) {cdv : Value} {A : Around} {outer : List Env} {s : Shared} {H : Hp} {E : XK} (hr : Room 2 (A.deeper (PyProof.Rows.envOfC "check_sizes" (defScope s_check_sizes) s.heap.objs.size T.f_check_sizes cdv))) :
  { t : TS // PSs (cxOf (L2.CX P w) P w K mg base N_check_sizes "check_sizes" (defScope s_check_sizes) T.f_check_sizes cdv A outer s H E) (defBody s_check_sizes) t } := by
  have hu := hu_of hr
  have hu65 := hu65_of hr
  have tk := takes_of (X := cxOf (L2.CX P w) P w K mg base N_check_sizes "check_sizes" (defScope s_check_sizes) T.f_check_sizes cdv A outer s H E) (E := E) rfl rfl rfl rfl
  exact ⟨_, (pss_cons (ps_for (passes_of rfl) rfl (pi_list (pv 0)) (pg_name (i := 1) sc_check_sizes.nd rfl (by first | exact Or.inl rfl | exact Or.inr rfl))
 (pss_one (ps_if (pt_cmpR op_gt (pe_callB call_len_str (by rfl) T.b_len PySem.boot_len (pa_cons (pv 1) pa_nil)) (pe_gint rfl T.c_SIGNS) (nomark _))
 (pss_one (ps_raise rfl tk (pmk_oex T.ox_TooMany T.ii_TooMany T.ti_TooMany (ok_TooMany___init__ T) (hr.mono (by decide)) T.B_TooMany___init__ .nil pass0 rfl T.m_TooMany (pa_cons pe_str pa_nil))))
 pss_nil)))
 (pss_cons (ps_for (passes_of rfl) rfl (pi_list (pv 0)) (pg_name (i := 1) sc_check_sizes.nd rfl (by first | exact Or.inl rfl | exact Or.inr rfl))
 (pss_one (ps_if (pt_val (pe_call (ok_long_run T) (hr.mono (by decide)) rfl T.m_long_run T.F_long_run.kp T.B_long_run .nil pass0 (pa_cons (pv 1) (pa_cons pe_bl pa_nil))))
 (pss_one (ps_raise rfl tk (pmk_oex T.ox_TooMany T.ii_TooMany T.ti_TooMany (ok_TooMany___init__ T) (hr.mono (by decide)) T.B_TooMany___init__ .nil pass0 rfl T.m_TooMany (pa_cons pe_str pa_nil))))
 pss_nil)))
 (pss_one (ps_for (passes_of rfl) rfl (pi_list (pv 0)) (pg_name (i := 1) sc_check_sizes.nd rfl (by first | exact Or.inl rfl | exact Or.inr rfl))
 (pss_one (ps_if (pt_val (pe_call (ok_long_run T) (hr.mono (by decide)) rfl T.m_long_run T.F_long_run.kp T.B_long_run .nil pass0 (pa_cons (pv 1) (pa_cons pe_bl pa_nil))))
 (pss_one (ps_raise rfl tk (pmk_oex T.ox_TooMany T.ii_TooMany T.ti_TooMany (ok_TooMany___init__ T) (hr.mono (by decide)) T.B_TooMany___init__ .nil pass0 rfl T.m_TooMany (pa_cons pe_str pa_nil))))
 pss_nil))))))⟩
theorem ok_check_sizes (T : Txt K mg) : FnOk P w K mg base (L2.CX P w) 3 T.f_check_sizes T.fd_check_sizes ["texts"] (sp_check_sizes K T.a_TooMany) := by
  refine T.F_check_sizes.okX sc_check_sizes (fun vs H Q E h => ?_) (fun cdv A outer s H vs Q E hr h => ?_)
  · obtain ⟨a, _, rfl, _⟩ := h
    rfl
  · obtain ⟨a, text, rfl, ha, hl, q1, q2⟩ := h
    refine ⟨_, (dv_check_sizes T hr).2, ?_⟩
    dsimp only [dv_check_sizes]
    walk_at "rd"
    have l1 : ("signs" : Str).length ≤ 100 := by decide +kernel
    have l2 : ("name" : Str).length ≤ 100 := by decide +kernel
    have l3 : ("figures" : Str).length ≤ 100 := by decide +kernel
    unfold manyOf at q1 q2
    refine for_l (fun i σ H' => (∃ x1 : Option V, σ = [some (.ref a), x1]) ∧ H' = H ∧ (0 < i → ¬ 20000 < text.length)) ⟨⟨_, rfl⟩, rfl, fun z => absurd z (by omega)⟩ (fun i σ H' _ h => by obtain ⟨_, rfl, _⟩ := h; exact SqL.of ha) ?_ ?_
    · rintro i x σ H' N hx ⟨⟨x1, rfl⟩, rfl, _⟩ hN
      obtain ⟨rfl, rfl⟩ : i = 0 ∧ x = .str (mkS text) := by
        cases i with
        | zero => simp at hx; exact ⟨rfl, hx.symm⟩
        | succ i => simp at hx
      walk_at "rd"
      refine if_d (fun h1 => ?_) (fun h1 => ?_)
      · walk_at "rd"
        exact raise_many (q2 "signs" (if_pos (by omega))) (Same.refl _) l1
      · walk_at "rd"
        exact hN _ _ ⟨⟨_, rfl⟩, rfl, fun _ => by omega⟩
    · rintro σ H' ⟨⟨x1, rfl⟩, rfl, h1⟩
      have g1 := h1 (by simp)
      rw [if_neg g1] at q1 q2
      walk_at "rd"
      refine for_l (fun i σ H2 => (∃ x1 : Option V, σ = [some (.ref a), x1]) ∧ Same H' H2 ∧ (0 < i → ¬ longText false text = true)) ⟨⟨_, rfl⟩, Same.refl _, fun z => absurd z (by omega)⟩ (fun i σ H2 _ h => by obtain ⟨_, hs, _⟩ := h; exact SqL.of (hs _ _ ha)) ?_ ?_
      · rintro i x σ H2 N hx ⟨⟨x1, rfl⟩, hs2, _⟩ hN
        obtain ⟨rfl, rfl⟩ : i = 0 ∧ x = .str (mkS text) := by
          cases i with
          | zero => simp at hx; exact ⟨rfl, hx.symm⟩
          | succ i => simp at hx
        walk_at "rd"
        refine ⟨text, false, rfl, hl, fun H3 hs3 => ?_⟩
        walk_at "rd"
        refine if_c (fun h1 => ?_) (fun h1 => ?_)
        · walk_at "rd"
          exact raise_many (q2 "name" (if_pos h1)) (hs2.trans hs3) l2
        · walk_at "rd"
          exact hN _ _ ⟨⟨_, rfl⟩, hs2.trans hs3, fun _ => by rw [h1]; decide⟩
      · rintro σ H2 ⟨⟨x1, rfl⟩, hs2, h1⟩
        have g2 := h1 (by simp)
        have ha2 : H2 a = some (.lst [V.str (mkS text)]) := hs2 _ _ ha
        rw [if_neg g2] at q1 q2
        walk_at "rd"
        refine for_l (fun i σ H3 => (∃ x1 : Option V, σ = [some (.ref a), x1]) ∧ Same H' H3 ∧ (0 < i → ¬ longText true text = true)) ⟨⟨_, rfl⟩, hs2, fun z => absurd z (by omega)⟩ (fun i σ H2 _ h => by obtain ⟨_, hs, _⟩ := h; exact SqL.of (hs _ _ ha)) ?_ ?_
        · rintro i x σ H3 N hx ⟨⟨x1, rfl⟩, hs3, _⟩ hN
          obtain ⟨rfl, rfl⟩ : i = 0 ∧ x = .str (mkS text) := by
            cases i with
            | zero => simp at hx; exact ⟨rfl, hx.symm⟩
            | succ i => simp at hx
          walk_at "rd"
          refine ⟨text, true, rfl, hl, fun H4 hs4 => ?_⟩
          walk_at "rd"
          refine if_c (fun h1 => ?_) (fun h1 => ?_)
          · walk_at "rd"
            exact raise_many (q2 "figures" (if_pos h1)) (hs3.trans hs4) l3
          · walk_at "rd"
            exact hN _ _ ⟨⟨_, rfl⟩, hs3.trans hs4, fun _ => by rw [h1]; decide⟩
        · rintro σ H3 ⟨⟨x1, rfl⟩, hs3, h1⟩
          have g3 := h1 (by simp)
          rw [if_neg g3] at q1
          walk_at "rd"
          exact q1 rfl _ hs3
theorem raise_bad {C : Addr} {H0 H : Hp} {E : XK} {u z : Str} {l c : Int} (hq : ∀ d H', Same H0 H' → H0 d = none → H' d = some (.xd (btFs u l c z)) → E (.ref C) (some d) H') (hs : Same H0 H) (h1 : u.length ≤ 1000) (h2 : l.natAbs < 10 ^ 9) (h3 : c.natAbs < 10 ^ 9) (h4 : z.length ≤ 1000) :
    ∀ a, H a = none → sp_BadText_init C (.ref a :: ([.str u, .int l, .int c, .str z] ++ [])) (upd H a (exo a C none)) (fun v H2 => v = .non ∧ ∃ d fs, H2 a = some (exo a C (some d)) ∧ H2 d = some (exd d fs) ∧ H d = none ∧ E (.ref C) (some d) (upd (del H2 a) d (.xd fs))) (fun _ _ _ => False) := by
  intro a ha
  refine ⟨a, u, l, c, z, rfl, h1, h2, h3, h4, upd_same, fun d H' hd hda g1 g2 g3 => ⟨rfl, d, _, g1, g2, by rw [upd_ne hda] at hd; exact hd, hq d _ (fun b o e => ?_) ?_ upd_same⟩⟩
  · have hb := hs _ _ e
    have k1 : b ≠ a := ne_of_none hb ha
    rw [upd_ne hda] at hd
    have k2 : b ≠ d := ne_of_none hb hd
    rw [upd_ne k2, del_ne k1, g3 b k1 k2, upd_ne k1]; exact hb
  · rw [upd_ne hda] at hd; exact Same.free hs hd
def badText (C : Addr) (H : Hp) (E : XK) (u : Str) (x : Nat × Nat × Str × Str) : Prop := ∀ d H', Same H H' → H d = none → H' d = some (.xd (btFs u (x.1 : Nat) ((x.2.1 : Int) + 1) x.2.2.2)) → E (.ref C) (some d) H'
def sp_token_rows (K : PySem.W.Frag) (CM CB : Addr) : Sp := fun vs H Q E => ∃ (u : Str) (text : List Nat) (S : Hp), vs = [.str u, .str (mkS text)] ∧ u.length ≤ 1000 ∧ text.length ≤ 3000 ∧ Same S H ∧
  (∀ what, manyOf text = some what → tooMany CM H E what) ∧ (manyOf text = none → ∀ x, firstBad text = some x → badText CB H E u x) ∧
  (manyOf text = none → firstBad text = none → ∀ p xs S' H', Ext S H S' H' → H p = none → S' p = none → H' p = some (.lst xs) → DpAll K S' xs ((toksAll text).flatten.map tokP) → xs.length ≤ 10000000 → Q (.ref p) H')
theorem DpAll.pick {K : PySem.W.Frag} {H : Hp} {vs : List V} : ∀ {ds : List PyData} {i : Nat} {v : V}, DpAll K H vs ds → vs[i]? = some v → ∃ d, ds[i]? = some d ∧ Dp K H v d := by
  induction vs with
  | nil => intro ds i d h e; simp at e
  | cons v vs ih =>
    intro ds i d h e
    cases h with
    | cons q r =>
      cases i with
      | zero => simp at e; subst e; exact ⟨_, rfl, q⟩
      | succ i =>
        obtain ⟨d', h1, h2⟩ := ih r (by simpa using e)
        exact ⟨d', by simpa using h1, h2⟩
theorem Dp.tok {K : PySem.W.Frag} {H : Hp} {y : V} {x : Nat × Nat × Str × Str} (h : Dp K H y (tokP x)) : ∃ q, y = .ref q ∧ SqT K H q [.int x.1, .int ((x.2.1 : Int) + 1), .str x.2.2.1, .str x.2.2.2] := by
  unfold tokP tokL tokD at h
  cases h with
  | tup q r =>
    cases r with | cons r1 r => cases r1; cases r with | cons r2 r => cases r2; cases r with | cons r3 r => cases r3; cases r with | cons r4 r => cases r4; cases r; exact ⟨_, rfl, q⟩
noncomputable def dv_token_rows (T : Txt K mg) {cdv : Value} {A : Around} {outer : List Env} {s : Shared} {H : Hp} {E : XK} (hr : Room 4 (A.deeper (PyProof.Rows.envOfC "token_rows" (defScope s_token_rows) s.heap.objs.size T.f_token_rows cdv))) :
  { t : TS // PSs (cxOf (L2.CX P w) P w K mg base N_token_rows "token_rows" (defScope s_token_rows) T.f_token_rows cdv A outer s H E) (defBody s_token_rows) t } := by
  have hu := hu_of hr
  have hu65 := hu65_of hr
  have tk := takes_of (X := cxOf (L2.CX P w) P w K mg base N_token_rows "token_rows" (defScope s_token_rows) T.f_token_rows cdv A outer s H E) (E := E) rfl rfl rfl rfl
  exact ⟨_, (pss_cons (ps_expr (pe_call (ok_check_sizes T) (hr.mono (by decide)) rfl T.m_check_sizes T.F_check_sizes.kp T.B_check_sizes .nil (passes_call tk (fun _ _ _ _ h => h)) (pa_cons (pe_lst (pa_cons (pv 1) pa_nil)) pa_nil)))
 (pss_cons (ps_set (i := 2) sc_token_rows.nd rfl (by first | exact Or.inl rfl | exact Or.inr rfl) (pe_lst pa_nil))
 (pss_cons (ps_for (passes_of rfl) rfl (pi_list (pe_call (ok_text_words T) (hr.mono (by decide)) rfl T.m_text_words T.F_text_words.kp T.B_text_words .nil pass0 (pa_cons (pv 1) pa_nil))) (pg_name (i := 3) sc_token_rows.nd rfl (by first | exact Or.inl rfl | exact Or.inr rfl))
 (pss_one (ps_for (passes_of rfl) rfl (pi_list (pv 3)) (pg_name (i := 4) sc_token_rows.nd rfl (by first | exact Or.inl rfl | exact Or.inr rfl))
 (pss_cons (ps_if (pt_cmpR op_eq (pe_ix ix_tup (pv 4) pe_int (fun _ _ => rfl)) pe_str (nomark _))
 (pss_one (ps_raise rfl tk (pmk_oex T.ox_BadText T.ii_BadText T.ti_BadText (ok_BadText___init__ T) (hr.mono (by decide)) T.B_BadText___init__ .nil pass0 rfl T.m_BadText (pa_cons (pv 0) (pa_cons (pe_ix ix_tup (pv 4) pe_int (fun _ _ => rfl)) (pa_cons (pe_ix ix_tup (pv 4) pe_int (fun _ _ => rfl)) (pa_cons (pe_ix ix_tup (pv 4) pe_int (fun _ _ => rfl)) pa_nil)))))))
 pss_nil)
 (pss_one (ps_expr (pe_bm PySem.F.plainAttrs_list PySem.F.slot_list_append PySem.F.type_list_append mt_append (pv 2) (pa_cons (pv 4) pa_nil))))))))
 (pss_one (ps_ret (pv 2))))))⟩
theorem ok_token_rows (T : Txt K mg) : FnOk P w K mg base (L2.CX P w) 5 T.f_token_rows T.fd_token_rows ["name", "text"] (sp_token_rows K T.a_TooMany T.a_BadText) := by
  refine T.F_token_rows.okX sc_token_rows (fun vs H Q E h => ?_) (fun cdv A outer s H vs Q E hr h => ?_)
  · obtain ⟨u, _, _, rfl, _⟩ := h
    rfl
  · obtain ⟨u, text, S, rfl, hu1, hl, hS, q1, q2, q3⟩ := h
    refine ⟨_, (dv_token_rows T hr).2, ?_⟩
    dsimp only [dv_token_rows]
    walk_at "rd"
    intro pt hpt
    walk_at "rd"
    refine ⟨pt, text, rfl, upd_same, by omega, fun hm H1 hs1 => ?_, fun what hw d H' hs hd he => q1 what hw d H' (Same.trans (Same.upd hpt) hs) (Same.free (Same.upd hpt) hd) he⟩
    have hs01 : Same H H1 := (Same.upd hpt).trans hs1
    walk_at "rd"
    intro p hp1
    have hp : H p = none := Same.free hs01 hp1
    have X1 : Ext S H S (upd H1 p (.lst [])) := ⟨Same.mut hs01 hp, Same.refl _, Same.mut (hS.trans hs01) (Same.free hS hp), fun _ _ => rfl⟩
    have np1 : S p = none := Same.free hS hp
    walk_at "rd"
    refine ⟨text, S, rfl, by omega, X1.sub, fun q xs S2 H2 X2 hq hq2 hD2 => ?_⟩
    have hqH := X2.sub _ _ hq2
    walk_at "rd"
    have np2 : S2 p = none := X2.none_S np1 (by rw [upd_same]; exact fun z => nomatch z)
    have hat2 : H2 p = some (.lst []) := X2.hh _ _ upd_same
    have X := X1.trans X2
    rw [tokensOf_eq] at hD2
    have hxl : xs.length = (toksAll text).length := by rw [DpAll.length hD2]; simp
    have small : ∀ i j (L : List (Nat × Nat × Str × Str)), (toksAll text)[i]? = some L → (((toksAll text).take i).flatten ++ L.take j).length ≤ 9006000 := by
      intro i j L hL
      have h1 : ∀ l ∈ toksAll text, l.length ≤ text.length := by
        intro l hl2
        unfold toksAll at hl2
        obtain ⟨k, hk, rfl⟩ := List.mem_iff_getElem.mp hl2
        rw [List.getElem_mapIdx, List.length_map]
        exact Nat.le_trans (toks_len _) (linesOf_len (List.getElem_mem _))
      have h2 : (toksAll text).length ≤ text.length + 2 := by unfold toksAll; rw [List.length_mapIdx]; exact linesOf_num
      have hi : i < (toksAll text).length := (List.getElem?_eq_some_iff.mp hL).1
      have h3 := flat_len ((toksAll text).take i) fun l hl2 => h1 l (List.mem_of_mem_take hl2)
      have h4 := h1 L (List.mem_of_getElem? hL)
      rw [List.length_take, Nat.min_eq_left (Nat.le_of_lt hi)] at h3
      rw [List.length_append, List.length_take]
      have h5 : i * text.length ≤ 3001 * 3000 := Nat.mul_le_mul (by omega) (by omega)
      omega
    refine for_l (xs := xs) (fun i σ H' => ∃ (vs : List V) (x3 x4 : Option V), σ = [some (.str u), some (.str (mkS text)), some (.ref p), x3, x4] ∧ Ext S H S2 H' ∧ H' p = some (.lst vs) ∧
      DpAll K S2 vs (((toksAll text).take i).flatten.map tokP) ∧ ((toksAll text).take i).flatten.find? isBad = none) ⟨[], _, _, rfl, X, hat2, .nil, rfl⟩ (fun i σ H' _ h => by
        obtain ⟨_, _, _, _, X', _⟩ := h; exact SqL.of (X'.sub _ _ hq2)) ?_ ?_
    · rintro i x σ H' N hx ⟨vs, x3, x4, rfl, X', hat, hD, hno⟩ hN
      obtain ⟨d, hd1, hd2⟩ := DpAll.pick hD2 hx
      rw [List.getElem?_map, List.getElem?_map] at hd1
      cases hL : (toksAll text)[i]? with
      | none => rw [hL] at hd1; cases hd1
      | some L =>
      rw [hL] at hd1
      simp only [Option.map_some, Option.some.injEq] at hd1
      subst hd1
      cases hd2 with
      | @lst ql ws _ hws hDw =>
      have hws' : SqL K H' ql ws := SqL.mono X'.sub hws
      have hbig := small i
      walk_at "rd"
      refine for_l (xs := ws) (fun j σ H' => ∃ (vs : List V) (x4 : Option V), σ = [some (.str u), some (.str (mkS text)), some (.ref p), some (.ref ql), x4] ∧ Ext S H S2 H' ∧ H' p = some (.lst vs) ∧
        DpAll K S2 vs ((((toksAll text).take i).flatten ++ L.take j).map tokP) ∧ (((toksAll text).take i).flatten ++ L.take j).find? isBad = none) ⟨vs, _, rfl, X', hat, by simpa using hD, by simpa using hno⟩ (fun i σ H' _ h => by
          obtain ⟨_, _, _, X', _⟩ := h; exact SqL.mono X'.sub hws) ?_ ?_
      · rintro j y σ H3 N2 hy ⟨vs, x4, rfl, X3, hat3, hD3, hno3⟩ hN2
        obtain ⟨d, hd1, hd2⟩ := DpAll.pick hDw hy
        rw [List.getElem?_map] at hd1
        cases ht : L[j]? with
        | none => rw [ht] at hd1; cases hd1
        | some t =>
        rw [ht] at hd1
        simp only [Option.map_some, Option.some.injEq] at hd1
        subst hd1
        obtain ⟨qt, rfl, hqt⟩ := Dp.tok hd2
        have hqt3 : SqT K H3 qt _ := SqT.mono X3.sub hqt
        have e1 : L.take (j + 1) = L.take j ++ [t] := by rw [List.take_add_one, ht]; rfl
        walk_at "rd"
        refine if_d (fun h1 => ?_) (fun h1 => ?_)
        · have hb : isBad t = true := decide_eq_true (V.str.inj h1)
          have hf : firstBad text = some t := by
            unfold firstBad
            have e2 : toksAll text = (toksAll text).take i ++ L :: (toksAll text).drop (i + 1) := by
              have hi : i < (toksAll text).length := (List.getElem?_eq_some_iff.mp hL).1
              have hLi : (toksAll text)[i] = L := (List.getElem?_eq_some_iff.mp hL).2
              exact (by rw [← hLi, ← List.drop_eq_getElem_cons hi, List.take_append_drop])
            have e3 : L = L.take j ++ t :: L.drop (j + 1) := by
              have hj : j < L.length := (List.getElem?_eq_some_iff.mp ht).1
              have hLj : L[j] = t := (List.getElem?_eq_some_iff.mp ht).2
              exact (by rw [← hLj, ← List.drop_eq_getElem_cons hj, List.take_append_drop])
            rw [e2, List.flatten_append, List.flatten_cons]
            conv => lhs; rw [e3]
            rw [List.append_assoc, ← List.append_assoc, List.find?_append, hno3]
            simp [hb]
          have hmem : t ∈ L := List.mem_of_getElem? ht
          have hLm : L ∈ toksAll text := List.mem_of_getElem? hL
          have hfacts : t.1 ≤ text.length + 2 ∧ t.2.1 ≤ text.length ∧ t.2.2.2.length ≤ 100 := by
            unfold toksAll at hLm
            obtain ⟨k, hk, rfl⟩ := List.mem_iff_getElem.mp hLm
            rw [List.getElem_mapIdx] at hmem
            obtain ⟨t', ht', rfl⟩ := List.mem_map.mp hmem
            have h2 := toks_at ht'
            have h3 := linesOf_len (List.getElem_mem (l := linesOf text) (by rw [List.length_mapIdx] at hk; exact hk))
            have h4 := linesOf_num (text := text)
            rw [List.length_mapIdx] at hk
            exact ⟨by show k + 1 ≤ _; omega, by show t'.1 ≤ _; omega, h2.2 (V.str.inj h1)⟩
          walk_at "rd"
          exact raise_bad (q2 hm t hf) X3.hh hu1 (by omega) (by omega) (by omega)
        · have hb : isBad t = false := decide_eq_false fun z => h1 (by rw [z])
          have hsz : vs.length ≤ 9006000 := by
            rw [DpAll.length hD3, List.length_map]; exact hbig j L hL
          walk_at "rd"
          obtain ⟨a1, a2, a3, a4⟩ := snoc_dp X3 hp np2 hD3 hd2
          refine hN2 _ _ ⟨_, _, rfl, a1, a3, ?_, ?_⟩
          · rw [e1, ← List.append_assoc, List.map_append]; exact a4
          · rw [e1, ← List.append_assoc, List.find?_append, hno3]; simp [hb]
      · rintro σ H3 ⟨vs, x4, rfl, X3, hat3, hD3, hno3⟩
        have e2 : ((toksAll text).take (i + 1)).flatten = ((toksAll text).take i).flatten ++ L.take ws.length := by
          have hwl : ws.length = L.length := by rw [DpAll.length hDw, List.length_map]
          rw [List.take_add_one, hL, List.flatten_append, hwl, List.take_length]; simp
        walk_at "rd"
        exact hN _ _ ⟨vs, _, _, rfl, X3, hat3, by rw [e2]; exact hD3, by rw [e2]; exact hno3⟩
    · rintro σ H' ⟨vs, x3, x4, rfl, X', hat, hD, hno⟩
      rw [hxl, List.take_length] at hD hno
      walk_at "rd"
      refine q3 hm hno p vs S2 H' X' hp np2 hat hD ?_
      have h1 : ∀ l ∈ toksAll text, l.length ≤ text.length := by
        intro l hl2
        unfold toksAll at hl2
        obtain ⟨k, hk, rfl⟩ := List.mem_iff_getElem.mp hl2
        rw [List.getElem_mapIdx, List.length_map]
        exact Nat.le_trans (toks_len _) (linesOf_len (List.getElem_mem _))
      have h2 : (toksAll text).length ≤ text.length + 2 := by unfold toksAll; rw [List.length_mapIdx]; exact linesOf_num
      have h3 := flat_len (toksAll text) h1
      have h5 : (toksAll text).length * text.length ≤ 3002 * 3000 := Nat.mul_le_mul (by omega) (by omega)
      rw [DpAll.length hD, List.length_map]; omega
/-- a source of draws at p, its great cells at q -/
def Src (H : Hp) (p q : Addr) : Prop := ∃ (m c : Int) (ns : List Int), H p = some (.lst [.int m, .ref q, .int c]) ∧ H q = some (.lst (ns.map V.int)) ∧ p ≠ q ∧ 0 ≤ m ∧ m < 2147483647 ∧ 0 ≤ c ∧ ns.length ≤ 63
def sp_law_open (K : PySem.W.Frag) : Sp := fun vs H Q _ => ∃ (a : Addr) (ns : List Int), vs = [.ref a] ∧ SqL K H a (ns.map V.int) ∧ ns.length ≤ 63 ∧ ∀ p q H', Src H' p q → Same H H' → H p = none → H q = none → Q (.ref p) H'
noncomputable def dv__law_open (T : Txt K mg) {cdv : Value} {A : Around} {outer : List Env} {s : Shared} {H : Hp} {E : XK} (hr : Room 0 (A.deeper (PyProof.Rows.envOfC "_law_open" (defScope s__law_open) s.heap.objs.size T.f__law_open cdv))) :
  { t : TS // PSs (cxOf (CX0) P w K mg base N__law_open "_law_open" (defScope s__law_open) T.f__law_open cdv A outer s H E).nox (defBody s__law_open) t } := by
  have hu := hu_of hr
  have hu65 := hu65_of hr
  exact ⟨_, (pss_cons (ps_set (i := 1) sc__law_open.nd rfl (by first | exact Or.inl rfl | exact Or.inr rfl) (pe_lst pa_nil))
 (pss_cons (ps_set (i := 2) sc__law_open.nd rfl (by first | exact Or.inl rfl | exact Or.inr rfl) pe_int)
 (pss_cons (ps_for PassesOwn.never rfl (pi_range1 (by rfl) T.b_range (pa_cons (pe_callB (call_min2 rfl) (by rfl) T.b_min (by decide +kernel) (pa_cons (pe_callB call_len_seq (by rfl) T.b_len PySem.boot_len (pa_cons (pv 0) pa_nil)) (pa_cons pe_int pa_nil))) pa_nil)) (pg_name (i := 3) sc__law_open.nd rfl (by first | exact Or.inl rfl | exact Or.inr rfl))
 (pss_cons (ps_set (i := 4) sc__law_open.nd rfl (by first | exact Or.inl rfl | exact Or.inr rfl) (pe_callTy call_int1 (by rfl) T.b_int (by decide +kernel) (pa_cons (pe_ix ix_list (pv 0) (pv 3) (fun _ _ => rfl)) pa_nil)))
 (pss_one (ps_if (pt_cmpR op_ge (pe_callB call_abs (by rfl) T.b_abs (by decide +kernel) (pa_cons (pv 4) pa_nil)) (pe_op op_pow pe_int pe_int) (nomark _))
 (pss_one (ps_expr (pe_bm PySem.F.plainAttrs_list PySem.F.slot_list_append PySem.F.type_list_append mt_append (pv 1) (pa_cons (pe_callB call_abs (by rfl) T.b_abs (by decide +kernel) (pa_cons (pv 4) pa_nil)) pa_nil))))
 (pss_one (ps_set (i := 2) sc__law_open.nd rfl (by first | exact Or.inl rfl | exact Or.inr rfl) (pe_op op_mod (pe_op op_add (pe_op op_add (pe_op op_add (pe_op op_mul (pv 2) pe_int) (pe_op op_mod (pv 4) pe_int)) (pe_op op_mul pe_int (pv 3))) pe_int) pe_int)))))))
 (pss_one (ps_ret (pe_lst (pa_cons (pv 2) (pa_cons (pv 1) (pa_cons pe_int pa_nil)))))))))⟩
theorem ok__law_open (T : Txt K mg) : FnOk P w K mg base CX0 1 T.f__law_open T.fd__law_open ["script"] (sp_law_open K) := by
  refine T.F__law_open.ok sc__law_open (fun vs H Q E h => ?_) (fun cdv A outer s H vs Q E hr h => ?_)
  · obtain ⟨a, _, rfl, _⟩ := h
    rfl
  · obtain ⟨a, ns, rfl, ha, hl, q⟩ := h
    refine ⟨_, (dv__law_open T hr).2, ?_⟩
    dsimp only [dv__law_open]
    walk_at "rd"
    intro pq hpq
    have ha1 : SqL K (upd H pq (.lst [])) a (ns.map V.int) := SqL.mono (Same.upd hpq) ha
    walk_at "rd"
    simp only [List.length_map]
    rw [if_neg (show ¬ (63 : Int) < (ns.length : Nat) by omega), Int.toNat_natCast]
    refine for_r (n := ns.length) (fun i σ H' => ∃ (m : Int) (x3 x4 : Option V) (ks : List Int), σ = [some (.ref a), some (.ref pq), some (.int m), x3, x4] ∧ Same H H' ∧ H' pq = some (.lst (ks.map V.int)) ∧ 0 ≤ m ∧ m < 2147483647 ∧ ks.length ≤ i)
      ⟨20231, _, _, [], rfl, Same.upd hpq, upd_same, by decide, by decide, Nat.le_refl _⟩ ?_ ?_
    · rintro i σ H' N hi ⟨m, x3, x4, ks, rfl, hs, hat, h0, h1, hk⟩ hN
      have hai : SqL K H' a (ns.map V.int) := SqL.mono hs ha
      have hg : atI (ns.map V.int) (0 + (i : Int)) = some (.int ns[i]) := by rw [Int.zero_add]; exact atI_nat (by rw [List.getElem?_map, List.getElem?_eq_getElem hi]; rfl)
      walk_at "rd"
      refine .inl ⟨_, rfl, ?_⟩
      walk_at "rd"
      refine if_d (fun h2 => ?_) (fun h2 => ?_)
      · walk_at "rd"
        rw [show ks.map V.int ++ [V.int (if ns[i] < 0 then -ns[i] else ns[i])] = (ks ++ [if ns[i] < 0 then -ns[i] else ns[i]]).map V.int by rw [List.map_append]; rfl]
        exact hN _ _ ⟨m, _, _, ks ++ [_], rfl, Same.mut hs hpq, upd_same, h0, h1, by simp; omega⟩
      · walk_at "rd"
        exact hN _ _ ⟨_, _, _, ks, rfl, hs, hat, Int.emod_nonneg _ (by decide), Int.emod_lt_of_pos _ (by decide), by omega⟩
    · rintro σ H' ⟨m, x3, x4, ks, rfl, hs, hat, h0, h1, hk⟩
      walk_at "rd"
      intro p hp
      have npq : p ≠ pq := fun z => by rw [z, hat] at hp; cases hp
      exact q p pq _ ⟨m, 0, ks, upd_same, by rw [upd_ne (Ne.symm npq)]; exact hat, npq, h0, h1, by decide, by omega⟩ (hs.trans (Same.upd hp)) (Same.free hs hp) hpq
/-- a draw: the source changes, all else stays -/
def sp_law_pick : Sp := fun vs H Q _ => ∃ (p q : Addr) (many : Int), vs = [.ref p, .int many] ∧ Src H p q ∧ 0 < many ∧ many < 1000000 ∧
  ∀ (r : Nat) H', (r : Int) < many → Src H' p q → (∀ b, b ≠ p → b ≠ q → H' b = H b) → Q (.int r) H'
noncomputable def dv__law_pick (T : Txt K mg) {cdv : Value} {A : Around} {outer : List Env} {s : Shared} {H : Hp} {E : XK} (hr : Room 0 (A.deeper (PyProof.Rows.envOfC "_law_pick" (defScope s__law_pick) s.heap.objs.size T.f__law_pick cdv))) :
  { t : TS // PSs (cxOf (CX0) P w K mg base N__law_pick "_law_pick" (defScope s__law_pick) T.f__law_pick cdv A outer s H E).nox (defBody s__law_pick) t } := by
  have hu := hu_of hr
  have hu65 := hu65_of hr
  exact ⟨_, (pss_cons (ps_asg (pe_op op_mod (pe_op op_add (pe_op op_mul (pe_ix ix_list (pv 0) pe_int (fun _ _ => rfl)) pe_int) pe_int) pe_int) (pg_sub (pv 0) pe_int set_list))
 (pss_cons (ps_set (i := 2) sc__law_pick.nd rfl (by first | exact Or.inl rfl | exact Or.inr rfl) pe_int)
 (pss_cons (ps_if (pt_cmpR op_lt (pe_ix ix_list (pv 0) pe_int (fun _ _ => rfl)) (pe_callB call_len_seq (by rfl) T.b_len PySem.boot_len (pa_cons (pe_ix ix_list (pv 0) pe_int (fun _ _ => rfl)) pa_nil)) (nomark _))
 (pss_cons (ps_set (i := 3) sc__law_pick.nd rfl (by first | exact Or.inl rfl | exact Or.inr rfl) (pe_callTy call_int1 (by rfl) T.b_int (by decide +kernel) (pa_cons (pe_ix ix_list (pe_ix ix_list (pv 0) pe_int (fun _ _ => rfl)) (pe_ix ix_list (pv 0) pe_int (fun _ _ => rfl)) (fun _ _ => rfl)) pa_nil)))
 (pss_cons (ps_set (i := 2) sc__law_pick.nd rfl (by first | exact Or.inl rfl | exact Or.inr rfl) (pe_op op_mod (pv 3) (pv 1)))
 (pss_cons (ps_asg (pe_op op_fdivW (pv 3) (pv 1)) (pg_sub (pe_ix ix_list (pv 0) pe_int (fun _ _ => rfl)) (pe_ix ix_list (pv 0) pe_int (fun _ _ => rfl)) set_list))
 (pss_one (ps_if (pt_cmpR op_lt (pv 3) (pv 1) (nomark _))
 (pss_one (ps_augS (pv 0) pe_int get_list pe_int ip_add set_list))
 pss_nil)))))
 pss_nil)
 (pss_one (ps_ret (pe_op op_mod (pe_op op_add (pe_op op_fdiv (pe_ix ix_list (pv 0) pe_int (fun _ _ => rfl)) pe_int) (pv 2)) (pv 1)))))))⟩
theorem ok__law_pick (T : Txt K mg) : FnOk P w K mg base CX0 1 T.f__law_pick T.fd__law_pick ["s", "many"] sp_law_pick := by
  refine T.F__law_pick.ok sc__law_pick (fun vs H Q E h => ?_) (fun cdv A outer s H vs Q E hr h => ?_)
  · obtain ⟨a, _, _, rfl, _⟩ := h
    rfl
  · obtain ⟨p, q, many, rfl, ⟨m, c, ns, hp, hq, npq, hm0, hm1, hc0, hnl⟩, h0, h1, k⟩ := h
    refine ⟨_, (dv__law_pick T hr).2, ?_⟩
    dsimp only [dv__law_pick]
    have a0 : ∀ (x y z : V), atI [x, y, z] 0 = some x := fun _ _ _ => rfl
    have hpL := SqL.of (K := K) hp
    have wd : many.natAbs.log2 < 9000 := (wide_div (i := 0) h0 (b := 20) (by omega) (by decide) (by decide)).2
    walk_at "rd"
    have hmod : ∀ z : Int, 0 ≤ z % many ∧ z % many < many := fun z => ⟨Int.emod_nonneg _ (by omega), Int.emod_lt_of_pos _ h0⟩
    have e1 : [V.int m, V.ref q, V.int c].set (Int.toNat 0) (V.int ((m * 69621 + 1327) % 2147483647)) = [V.int ((m * 69621 + 1327) % 2147483647), V.ref q, V.int c] := rfl
    rw [e1]
    have g0 : 0 ≤ (m * 69621 + 1327) % 2147483647 := Int.emod_nonneg _ (by decide)
    have g1 : (m * 69621 + 1327) % 2147483647 < 2147483647 := Int.emod_lt_of_pos _ (by decide)
    generalize (m * 69621 + 1327) % 2147483647 = m1 at *
    obtain ⟨H1, hH1⟩ : ∃ H1, H1 = upd H p (.lst [V.int m1, V.ref q, V.int c]) := ⟨_, rfl⟩
    rw [← hH1]
    have hp1 : H1 p = some (.lst [V.int m1, V.ref q, V.int c]) := by rw [hH1]; exact upd_same
    have hq1 : H1 q = some (.lst (ns.map V.int)) := by rw [hH1]; exact upd_get npq hq
    have hb1 : ∀ b, b ≠ p → b ≠ q → H1 b = H b := fun b h _ => by rw [hH1, upd_ne h]
    refine if_d (fun h2 => ?_) (fun h2 => ?_)
    · rw [List.length_map] at h2
      obtain ⟨cn, rfl⟩ : ∃ cn : Nat, c = cn := ⟨c.toNat, by omega⟩
      have hcn : cn < ns.length := by omega
      have hx : atI (ns.map V.int) (cn : Int) = some (.int ns[cn]) := atI_nat (by rw [List.getElem?_map, List.getElem?_eq_getElem hcn]; rfl)
      have hix : ixN (ns.map V.int).length (cn : Int) = some cn := by unfold ixN; rw [if_pos (by omega), if_pos (by rw [List.length_map]; omega), Int.toNat_natCast]
      generalize ns[cn] = z at *
      walk_at "rd"
      refine .inl ⟨_, rfl, ?_⟩
      walk_at "rd"
      have e2 : (ns.map V.int).set cn (V.int (z / many)) = (ns.set cn (z / many)).map V.int := by rw [List.map_set]
      rw [e2]
      have hp2 : upd H1 q (.lst ((ns.set cn (z / many)).map V.int)) p = some (.lst [V.int m1, V.ref q, V.int cn]) := upd_get (Ne.symm npq) hp1
      have hS : Src (upd H1 q (.lst ((ns.set cn (z / many)).map V.int))) p q := ⟨m1, cn, ns.set cn (z / many), hp2, upd_same, npq, g0, g1, by omega, by simp; omega⟩
      have hb2 : ∀ b, b ≠ p → b ≠ q → upd H1 q (.lst ((ns.set cn (z / many)).map V.int)) b = H b := fun b k1 k2 => by rw [upd_ne k2]; exact hb1 b k1 k2
      refine if_d (fun h3 => ?_) (fun h3 => ?_)
      · walk_at "rd"
        have hh := hmod (m1 / 8 + z % many)
        have k' := k ((m1 / 8 + z % many) % many).toNat (upd (upd H1 q (.lst ((ns.set cn (z / many)).map V.int))) p (.lst [V.int m1, V.ref q, V.int ((cn : Int) + 1)])) (by omega)
          ⟨m1, (cn : Int) + 1, ns.set cn (z / many), upd_same, upd_get npq upd_same, npq, g0, g1, by omega, by simp; omega⟩ (fun b k1 k2 => by rw [upd_ne k1]; exact hb2 b k1 k2)
        rw [Int.toNat_of_nonneg hh.1] at k'
        exact k'
      · walk_at "rd"
        have hh := hmod (m1 / 8 + z % many)
        have k' := k ((m1 / 8 + z % many) % many).toNat _ (by omega) hS hb2
        rw [Int.toNat_of_nonneg hh.1] at k'
        exact k'
    · walk_at "rd"
      have hh := hmod (m1 / 8 + 0)
      have k' := k ((m1 / 8 + 0) % many).toNat H1 (by omega) ⟨m1, c, ns, hp1, hq1, npq, g0, g1, hc0, hnl⟩ hb1
      rw [Int.toNat_of_nonneg hh.1] at k'
      exact k'
/-- draws were made: the source is one still, all else that was there stays -/
structure Dr (H H' : Hp) (p q : Addr) : Prop where
  src : Src H' p q
  keep : ∀ b o, H b = some o → b ≠ p → b ≠ q → H' b = some o
theorem Src.at_p {H : Hp} {p q : Addr} (s : Src H p q) : ∃ xs, H p = some (.lst xs) := by
  obtain ⟨_, _, _, h, _⟩ := s
  exact ⟨_, h⟩
theorem Src.at_q {H : Hp} {p q : Addr} (s : Src H p q) : ∃ xs, H q = some (.lst xs) := by
  obtain ⟨_, _, _, _, h, _⟩ := s
  exact ⟨_, h⟩
theorem Src.same {H H' : Hp} {p q : Addr} (s : Src H p q) (h : Same H H') : Src H' p q := by
  obtain ⟨m, c, ns, h1, h2, r⟩ := s
  exact ⟨m, c, ns, h _ _ h1, h _ _ h2, r⟩
theorem Dr.refl {H : Hp} {p q : Addr} (s : Src H p q) : Dr H H p q := ⟨s, fun _ _ e _ _ => e⟩
theorem Dr.trans {H H1 H2 : Hp} {p q : Addr} (a : Dr H H1 p q) (b : Dr H1 H2 p q) : Dr H H2 p q := ⟨b.src, fun c o e h1 h2 => b.keep c o (a.keep c o e h1 h2) h1 h2⟩
theorem Dr.free {H H' : Hp} {p q b : Addr} (a : Dr H H' p q) (h : H' b = none) : H b = none := by
  cases e : H b with
  | none => rfl
  | some o =>
    obtain ⟨x1, h1⟩ := a.src.at_p
    obtain ⟨x2, h2⟩ := a.src.at_q
    have n1 : b ≠ p := fun z => by rw [z, h1] at h; cases h
    have n2 : b ≠ q := fun z => by rw [z, h2] at h; cases h
    have := a.keep b o e n1 n2
    rw [this] at h; cases h
theorem Dr.same {H H1 H2 : Hp} {p q : Addr} (a : Dr H H1 p q) (h : Same H1 H2) : Dr H H2 p q := ⟨a.src.same h, fun b o e h1 h2 => h _ _ (a.keep b o e h1 h2)⟩
/-- an object that is new to H is written -/
theorem Dr.mut {H H1 : Hp} {p q D : Addr} {o : HO} (a : Dr H H1 p q) (hD : H D = none) (hp : D ≠ p) (hq : D ≠ q) : Dr H (upd H1 D o) p q :=
  ⟨by
    obtain ⟨m, c, ns, h1, h2, r⟩ := a.src
    exact ⟨m, c, ns, by rw [upd_ne (Ne.symm hp)]; exact h1, by rw [upd_ne (Ne.symm hq)]; exact h2, r⟩, fun b u e h1 h2 => by rw [upd_ne (ne_of_none e hD)]; exact a.keep b u e h1 h2⟩
theorem Dr.new {H H1 : Hp} {p q D : Addr} {o : HO} (a : Dr H H1 p q) (hD : H1 D = none) : Dr H (upd H1 D o) p q := a.same (Same.upd hD)
theorem Src.ne {H : Hp} {p q D : Addr} (s : Src H p q) (h : H D = none) : D ≠ p ∧ D ≠ q := by
  obtain ⟨x1, h1⟩ := s.at_p
  obtain ⟨x2, h2⟩ := s.at_q
  exact ⟨fun z => (by rw [z, h1] at h; cases h), fun z => (by rw [z, h2] at h; cases h)⟩
theorem pick_of {p q : Addr} {many : Int} {H : Hp} {Q : VK} {E : XK} (hs : Src H p q) (h0 : 0 < many) (h1 : many < 1000000) (k : ∀ (r : Nat) H', (r : Int) < many → Dr H H' p q → Q (.int r) H') : sp_law_pick ([.ref p, .int many] ++ []) H Q E :=
  ⟨p, q, many, rfl, hs, h0, h1, fun r H' hr s2 hb => k r H' hr ⟨s2, fun b o e h1 h2 => by rw [hb b h1 h2]; exact e⟩⟩
/-- texts drawn one behind the other, in a list -/
theorem lc_draw {ix : Nat} {te : TE} {vs : List Nat} {σ : L2.St} {H : Hp} {Q : VK} {p q : Addr} {n b : Nat} (hs : Src H p q) (hn : n ≤ 10000)
    (hte : ∀ (k : Nat) H', Src H' p q → ∀ N : VK, (∀ z H'', z.length ≤ b → Dr H' H'' p q → N (.str z) H'') → (∀ c o, H c = some o → c ≠ p → c ≠ q → H' c = some o) → te ((wipe σ vs).set ix (some (.int (0 + (k : Nat))))) H' N)
    (hw : ∀ x : V, wipe ((wipe σ vs).set ix (some x)) vs = wipe σ vs)
    (hd : ∀ D H' (zs : List Str), H D = none → Dr H H' p q → H' D = some (.lst (zs.map V.str)) → zs.length = n → (∀ z ∈ zs, z.length ≤ b) → Q (.ref D) H') : LcTail (Itr 0 n) (gName ix) tYes te vs σ H Q := by
  refine lc_r (lo := 0) (n := n) (fun D i H' => ∃ zs : List Str, H D = none ∧ Dr H H' p q ∧ H' D = some (.lst (zs.map V.str)) ∧ zs.length = i ∧ ∀ z ∈ zs, z.length ≤ b) (fun D hD => ?_) (fun D i H' N hD hi h hN => ?_) fun D H' hD h => ?_
  · obtain ⟨n1, n2⟩ := hs.ne hD
    exact ⟨[], hD, (Dr.refl hs).mut hD n1 n2, upd_same, rfl, fun z h => absurd h List.not_mem_nil⟩
  · obtain ⟨zs, _, d, hat, hl, hz⟩ := h
    refine ⟨hw _, ?_⟩
    show te _ _ _
    obtain ⟨n1, n2⟩ := hs.ne hD
    refine hte i H' d.src _ (fun z H'' hzl d2 => ?_) d.keep
    refine ⟨zs.map V.str, d2.keep _ _ hat n1 n2, by rw [List.length_map, hl, sizeLine_eq]; omega, hN _ ⟨zs ++ [z], hD, (d.trans d2).mut hD n1 n2, by rw [List.map_append]; exact upd_same, by simp [hl], fun y hy => ?_⟩⟩
    rcases List.mem_append.mp hy with h | h
    · exact hz y h
    · rw [List.mem_singleton.mp h]; exact hzl
  · obtain ⟨zs, h1, h2, h3, h4, h5⟩ := h
    exact hd D H' zs h1 h2 h3 h4 h5
theorem sum_le {b : Nat} : ∀ {zs : List Str}, (∀ z ∈ zs, z.length ≤ b) → (zs.map (·.length)).sum ≤ zs.length * b
  | [], _ => by simp
  | z :: zs, h => by
    have h1 := sum_le fun y hy => h y (List.mem_cons_of_mem _ hy)
    have h2 := h z List.mem_cons_self
    simp only [List.map_cons, List.sum_cons, List.length_cons, Nat.succ_mul]; omega
theorem join_len {b : Nat} {zs : List Str} (h : ∀ z ∈ zs, z.length ≤ b) : (Txt.join "" zs).length ≤ zs.length * b := by
  unfold Txt.join
  rw [PySem.size_glued]
  have e : ("" : Str).length = 0 := by decide +kernel
  rw [e, Nat.mul_zero, Nat.add_zero]
  exact sum_le h
def sp_law_keys : Sp := fun vs H Q _ => vs = [] ∧ ∀ p H', Same H H' → H p = none → H' p = some (.lst keysV) → Q (.ref p) H'
noncomputable def dv__law_keys (T : Txt K mg) {cdv : Value} {A : Around} {outer : List Env} {s : Shared} {H : Hp} {E : XK} (hr : Room 0 (A.deeper (PyProof.Rows.envOfC "_law_keys" (defScope s__law_keys) s.heap.objs.size T.f__law_keys cdv))) :
  { t : TS // PSs (cxOf (CX0) P w K mg base N__law_keys "_law_keys" (defScope s__law_keys) T.f__law_keys cdv A outer s H E).nox (defBody s__law_keys) t } := by
  have hu := hu_of hr
  have hu65 := hu65_of hr
  exact ⟨_, (pss_cons (ps_set (i := 0) sc__law_keys.nd rfl (by first | exact Or.inl rfl | exact Or.inr rfl) (pe_lst (pa_cons pe_str (pa_cons pe_str (pa_cons pe_str (pa_cons pe_str (pa_cons pe_str (pa_cons pe_str (pa_cons pe_str (pa_cons pe_str (pa_cons pe_str (pa_cons pe_str (pa_cons pe_str (pa_cons pe_str (pa_cons pe_str (pa_cons pe_str pa_nil))))))))))))))))
 (pss_one (ps_ret (pe_op op_cat (pv 0) (pe_lst (pa_cons pe_str (pa_cons pe_str (pa_cons pe_str (pa_cons pe_str (pa_cons pe_str (pa_cons pe_str (pa_cons pe_str (pa_cons pe_str (pa_cons pe_str (pa_cons pe_str (pa_cons pe_str (pa_cons pe_str (pa_cons pe_str pa_nil))))))))))))))))))⟩
theorem ok__law_keys (T : Txt K mg) : FnOk P w K mg base CX0 1 T.f__law_keys T.fd__law_keys [] sp_law_keys := by
  refine T.F__law_keys.ok sc__law_keys (fun vs H Q E h => ?_) (fun cdv A outer s H vs Q E hr h => ?_)
  · obtain ⟨rfl, _⟩ := h
    rfl
  · obtain ⟨rfl, q⟩ := h
    refine ⟨_, (dv__law_keys T hr).2, ?_⟩
    dsimp only [dv__law_keys]
    walk_at "rd"
    intro a ha
    walk_at "rd"
    intro b hb
    walk_at "rd"
    intro c hc
    refine q c _ (((Same.upd ha).trans (Same.upd hb)).trans (Same.upd hc)) (Same.free ((Same.upd ha).trans (Same.upd hb)) hc) ?_
    exact upd_same
theorem Src.upd {H : Hp} {p q D : Addr} {o : HO} (s : Src H p q) (h1 : D ≠ p) (h2 : D ≠ q) : Src (upd H D o) p q := by
  obtain ⟨m, c, ns, e1, e2, r⟩ := s
  exact ⟨m, c, ns, (upd_ne (Ne.symm h1)).trans e1, (upd_ne (Ne.symm h2)).trans e2, r⟩
theorem cutS_len (z : Str) (lo hi : Option Int) : (cutS z lo hi).length ≤ z.length := by
  have e : (cutS z lo hi).length = ((z.cps.toList.drop (HT.sIx z.length 0 lo)).take (HT.sIx z.length z.length hi - HT.sIx z.length 0 lo)).length := rfl
  have e2 : z.length = z.cps.toList.length := rfl
  rw [e, e2, List.length_take, List.length_drop]; omega
theorem atI_map {α : Type} {f : α → V} {xs : List α} {k : Nat} {x : α} (h : xs[k]? = some x) : atI (xs.map f) (k : Int) = some (f x) := atI_nat (by rw [List.getElem?_map, h]; rfl)
def sp_law_word : Sp := fun vs H Q _ => ∃ (p q u : Addr), vs = [.ref p, .ref u] ∧ Src H p q ∧ H u = some (.lst []) ∧ u ≠ p ∧ u ≠ q ∧
  ∀ (z : Str) H', z.length ≤ 40 → Src H' p q → (∀ b o, H b = some o → b ≠ p → b ≠ q → b ≠ u → H' b = some o) → Q (.str z) H'
theorem wl_small : ∀ r : Fin 6, ∃ n : Nat, ([0, 0, 1, 2, 4, 12] : List Int)[r.val]? = some (n : Int) ∧ n ≤ 12 := by
  intro r
  match r with
  | 0 => exact ⟨0, rfl, by decide⟩
  | 1 => exact ⟨0, rfl, by decide⟩
  | 2 => exact ⟨1, rfl, by decide⟩
  | 3 => exact ⟨2, rfl, by decide⟩
  | 4 => exact ⟨4, rfl, by decide⟩
  | 5 => exact ⟨12, rfl, by decide⟩
theorem let_len' : ("abcdefghijklmnopqrstuvwxyz0123456789" : Str).cps.toList.length = 36 := by decide +kernel
theorem let_len : ("abcdefghijklmnopqrstuvwxyz0123456789" : Str).length = 36 := by decide +kernel
noncomputable def dv__law_word (T : Txt K mg) {cdv : Value} {A : Around} {outer : List Env} {s : Shared} {H : Hp} {E : XK} (hr : Room 1 (A.deeper (PyProof.Rows.envOfC "_law_word" (defScope s__law_word) s.heap.objs.size T.f__law_word cdv))) :
  { t : TS // PSs (cxOf (CX0) P w K mg base N__law_word "_law_word" (defScope s__law_word) T.f__law_word cdv A outer s H E).nox (defBody s__law_word) t } := by
  have hu := hu_of hr
  have hu65 := hu65_of hr
  exact ⟨_, (pss_cons (ps_set (i := 2) sc__law_word.nd rfl (by first | exact Or.inl rfl | exact Or.inr rfl) pe_str)
 (pss_cons (ps_set (i := 3) sc__law_word.nd rfl (by first | exact Or.inl rfl | exact Or.inr rfl) (pe_ix ix_list (pe_lst (pa_cons pe_int (pa_cons pe_int (pa_cons pe_int (pa_cons pe_int (pa_cons pe_int (pa_cons pe_int pa_nil))))))) (pe_call (ok__law_pick T) (hr.mono (by decide)) rfl T.m__law_pick T.F__law_pick.kp T.B__law_pick .nil pass0 (pa_cons (pv 0) (pa_cons pe_int pa_nil))) (fun _ _ => rfl)))
 (pss_cons (ps_set (i := 4) sc__law_word.nd rfl (by first | exact Or.inl rfl | exact Or.inr rfl) (pe_op op_add_str (pe_ix ix_str (pv 2) (pe_call (ok__law_pick T) (hr.mono (by decide)) rfl T.m__law_pick T.F__law_pick.kp T.B__law_pick .nil pass0 (pa_cons (pv 0) (pa_cons pe_int pa_nil))) (fun _ _ => rfl)) (pe_join pe_str (pe_lc (own := [("k", 7)]) (by rfl) sc__law_word.nd (pi_range1 (by rfl) T.b_range (pa_cons (pv 3) pa_nil)) (blkOk_by (own := [("k", 7)]) (N := N__law_word) (sc := defScope s__law_word) (by decide +kernel)) (fun _ _ _ _ _ => (pg_name (i := 7) sc__law_word.nd rfl (by first | exact Or.inl rfl | exact Or.inr rfl))) (fun _ _ _ _ _ => pts_nil) (fun _ _ _ _ _ => (pe_ix ix_str (pv 2) (pe_call (ok__law_pick T) (hr.mono (by decide)) rfl T.m__law_pick T.F__law_pick.kp T.B__law_pick .nil pass0 (pa_cons (pv 0) (pa_cons pe_int pa_nil))) (fun _ _ => rfl)))))))
 (pss_cons (ps_set (i := 5) sc__law_word.nd rfl (by first | exact Or.inl rfl | exact Or.inr rfl) (pv 4))
 (pss_cons (ps_set (i := 6) sc__law_word.nd rfl (by first | exact Or.inl rfl | exact Or.inr rfl) (pe_call0 (ok__law_keys T) (hr.mono (by decide)) rfl T.m__law_keys T.F__law_keys.kp T.B__law_keys .nil pass0))
 (pss_cons (ps_for PassesOwn.never rfl (pi_range1 (by rfl) T.b_range (pa_cons pe_int pa_nil)) (pg_name (i := 7) sc__law_word.nd rfl (by first | exact Or.inl rfl | exact Or.inr rfl))
 (pss_cons (ps_if (PW.pt (pw_and (pt_cmpR op_notIn_seq (pv 5) (pv 1) rfl) (pw_and1 (pt_cmpR op_notIn_seq (pv 5) (pv 6) rfl))))
 (pss_one ps_break)
 pss_nil)
 (pss_one (ps_set (i := 5) sc__law_word.nd rfl (by first | exact Or.inl rfl | exact Or.inr rfl) (pe_op op_add_str (pe_op op_add_str (pe_slice sl_str (pv 4) po_none (po_some pe_int)) pe_str) (pe_callTy call_str_int (by rfl) T.b_str (by decide +kernel) (pa_cons (pv 7) pa_nil)))))))
 (pss_cons (ps_expr (pe_bm PySem.F.plainAttrs_list PySem.F.slot_list_append PySem.F.type_list_append mt_append (pv 1) (pa_cons (pv 5) pa_nil)))
 (pss_one (ps_ret (pv 5))))))))))⟩
theorem ok__law_word (T : Txt K mg) : FnOk P w K mg base CX0 2 T.f__law_word T.fd__law_word ["s", "used"] sp_law_word := by
  refine T.F__law_word.ok sc__law_word (fun vs H Q E h => ?_) (fun cdv A outer s H vs Q E hr h => ?_)
  · obtain ⟨_, _, _, rfl, _⟩ := h
    rfl
  · obtain ⟨p, q, u, rfl, hs, hu1, hup, huq, k⟩ := h
    refine ⟨_, (dv__law_word T hr).2, ?_⟩
    dsimp only [dv__law_word]
    have e36 := let_len
    have e36' := let_len'
    generalize (Str.ofString "abcdefghijklmnopqrstuvwxyz0123456789") = Lt at *
    walk_at "rd"
    intro l0 hl0
    have d0 : Dr H (upd H l0 (.lst [.int 0, .int 0, .int 1, .int 2, .int 4, .int 12])) p q := (Dr.refl hs).new hl0
    have hat0 : upd H l0 (.lst [.int 0, .int 0, .int 1, .int 2, .int 4, .int 12]) l0 = _ := upd_same
    walk_at "rd"
    refine pick_of d0.src (by decide) (by decide) fun r H1 hr1 d1 => ?_
    obtain ⟨n, hn, hn12⟩ := wl_small ⟨r, by omega⟩
    obtain ⟨nlp, nlq⟩ := hs.ne hl0
    have hat1 := d1.keep _ _ hat0 nlp nlq
    have hx : atI [V.int 0, V.int 0, V.int 1, V.int 2, V.int 4, V.int 12] (r : Int) = some (.int (n : Int)) := atI_map (f := V.int) (xs := [0, 0, 1, 2, 4, 12]) hn
    have d01 := d0.trans d1
    walk_at "rd"
    refine pick_of d01.src (by decide) (by decide) fun r2 H2 hr2 d2 => ?_
    have d02 := d01.trans d2
    walk_at "rd"
    refine lc_draw (b := 1) d02.src (by omega) (fun c H3 hs3 N hN hk => ?_) (fun x => rfl) fun D H3 zs hD d3 hat3 hzl hz1 => ?_
    · walk_at "rd"
      refine pick_of hs3 (by decide) (by decide) fun r3 H4 hr3 d4 => ?_
      walk_at "rd"
      exact hN _ _ (Nat.le_refl _) d4
    · have d03 := d02.trans d3
      have hjl := join_len hz1
      have hss := sum_le hz1
      have e0 : ("" : Str).length = 0 := by decide +kernel
      have hjs : (zs.map (·.length)).sum + zs.length * ("" : Str).length ≤ 16777216 := by rw [e0]; omega
      have e1 : (⟨#[Lt.cps.toList.getD r2 0]⟩ : Str).length = 1 := rfl
      walk_at "rd"
      have hst : (⟨#[Lt.cps.toList.getD r2 0]⟩ ++ Txt.join (Str.ofString "") zs : Str).length ≤ 25 := by rw [slen_app, e1]; omega
      generalize (⟨#[Lt.cps.toList.getD r2 0]⟩ ++ Txt.join (Str.ofString "") zs : Str) = st at *
      refine ⟨rfl, fun pk H4 hs4 hpk hk4 => ?_⟩
      have d04 := d03.same hs4
      have hu4 : H4 u = some (.lst []) := d04.keep _ _ hu1 hup huq
      have fin : ∀ (w : Str) kv, w.length ≤ 40 → (tSeq (tDrop (tBM K "list" rAppend (tVar 1) (tCons (tVar 5) tNil))) (tRet (tVar 5))) { nx := fun x H' => Q V.non H', rt := Q } [some (.ref p), some (.ref u), some (.str Lt), some (.int n), some (.str st), some (.str w), some (.ref pk), kv] H4 := by
        intro w kv hw
        walk_at "rd"
        exact k w _ hw (Src.upd d04.src hup huq) fun b o hb h1 h2 h3 => (upd_ne h3).trans (d04.keep b o hb h1 h2)
      refine ⟨90, rfl, by decide, by decide, ?_⟩
      refine for_r (lo := 0) (n := 90) (fun i σ H5 => H5 = H4 ∧ ∃ (w : Str) (kv : Option V), w.length ≤ 40 ∧ σ = [some (.ref p), some (.ref u), some (.str Lt), some (.int n), some (.str st), some (.str w), some (.ref pk), kv]) ⟨rfl, st, none, by omega, rfl⟩ (fun i σ H5 N hi h hN => ?_) fun σ H5 h => ?_
      · obtain ⟨rfl, w, kv, hw, rfl⟩ := h
        have hc := cutS_len st none (some 8)
        have hn := int_len (i := (0 + (i : Int))) (by omega)
        have hq : ("q" : Str).length = 1 := by decide +kernel
        have hall : (keysV).all flatV = true := by decide +kernel
        have fin' := fun w hw => fin w (some (V.int (0 + (i : Int)))) hw
        have more : (tAsg (tOp (fun x y H Q => ∃ i j, x = V.str i ∧ y = V.str j ∧ i.length + j.length ≤ sizeLine ∧ Q (V.str (i ++ j)) H) (tOp (fun x y H Q => ∃ i j, x = V.str i ∧ y = V.str j ∧ i.length + j.length ≤ sizeLine ∧ Q (V.str (i ++ j)) H) (tSl rSlS (tVar 4) tNoPart (tPart (tC (V.int 8)))) (tC (V.str (Str.ofString "q")))) (tCB (fun xs H Q => ∃ i, xs = [V.int i] ∧ i.natAbs.log2 < 1920 ∧ Q (V.str (Str.ofString (toString i))) H) (tCons (tVar 7) tNil))) (gName 5)) { nx := N, rt := Q } [some (.ref p), some (.ref u), some (.str Lt), some (.int n), some (.str st), some (.str w), some (.ref pk), some (V.int (0 + (i : Int)))] H5 := by
          walk_at "rd"
          refine ⟨by rw [sizeLine_eq, slen_app]; omega, ?_⟩
          refine hN _ _ ⟨rfl, _, some (V.int (0 + (i : Int))), ?_, rfl⟩
          rw [slen_app, slen_app]; omega
        walk_at "rd"
        have stop := fin' w hw
        dsimp only [tSeq, tDrop, tBM, rAppend, tVar, tCons, tNil, tRet] at stop more
        refine if_c (fun _ => ?_) (fun _ => ?_)
        · walk_at "rd"
          refine if_c (fun _ => stop) (fun _ => more)
        · exact more
      · obtain ⟨rfl, w, kv, hw, rfl⟩ := h
        exact fin w kv hw

theorem atI_strs {xs : List V} {b : Nat} (h : xs.all (fun v => match v with | .str z => decide (z.length ≤ b) | _ => false) = true) {r : Nat} (hr : r < xs.length) : ∃ z : Str, z.length ≤ b ∧ atI xs (r : Int) = some (.str z) := by
  have hm := List.all_eq_true.mp h _ (List.getElem_mem hr)
  have e : atI xs (r : Int) = some xs[r] := atI_nat (List.getElem?_eq_getElem hr)
  rw [e]
  revert hm
  cases xs[r] <;> intro hm <;> first | exact ⟨_, of_decide_eq_true hm, rfl⟩ | cases hm
def sp_law_piece : Sp := fun vs H Q _ => ∃ (p q : Addr) (odd wide : Bool), vs = [.ref p, .bl odd, .bl wide] ∧ Src H p q ∧
  ∀ (z : Str) H', z.length ≤ 26 → Dr H H' p q → Q (.str z) H'
noncomputable def dv__law_piece (T : Txt K mg) {cdv : Value} {A : Around} {outer : List Env} {s : Shared} {H : Hp} {E : XK} (hr : Room 1 (A.deeper (PyProof.Rows.envOfC "_law_piece" (defScope s__law_piece) s.heap.objs.size T.f__law_piece cdv))) :
  { t : TS // PSs (cxOf (CX0) P w K mg base N__law_piece "_law_piece" (defScope s__law_piece) T.f__law_piece cdv A outer s H E).nox (defBody s__law_piece) t } := by
  have hu := hu_of hr
  have hu65 := hu65_of hr
  exact ⟨_, (pss_cons (ps_set (i := 3) sc__law_piece.nd rfl (by first | exact Or.inl rfl | exact Or.inr rfl) pe_str)
 (pss_cons (ps_set (i := 4) sc__law_piece.nd rfl (by first | exact Or.inl rfl | exact Or.inr rfl) pe_str)
 (pss_cons (ps_set (i := 5) sc__law_piece.nd rfl (by first | exact Or.inl rfl | exact Or.inr rfl) (pe_call (ok__law_pick T) (hr.mono (by decide)) rfl T.m__law_pick T.F__law_pick.kp T.B__law_pick .nil pass0 (pa_cons (pv 0) (pa_cons pe_int pa_nil))))
 (pss_cons (ps_if (pt_cmpR op_eq (pv 5) pe_int (nomark _))
 (pss_one (ps_ret (pe_ix ix_list (pe_call0 (ok__law_keys T) (hr.mono (by decide)) rfl T.m__law_keys T.F__law_keys.kp T.B__law_keys .nil pass0) (pe_call (ok__law_pick T) (hr.mono (by decide)) rfl T.m__law_pick T.F__law_pick.kp T.B__law_pick .nil pass0 (pa_cons (pv 0) (pa_cons pe_int pa_nil))) (fun _ _ => rfl))))
 pss_nil)
 (pss_cons (ps_if (pt_cmpR op_lt (pv 5) pe_int (nomark _))
 (pss_cons (ps_set (i := 6) sc__law_piece.nd rfl (by first | exact Or.inl rfl | exact Or.inr rfl) (pe_call (ok__law_pick T) (hr.mono (by decide)) rfl T.m__law_pick T.F__law_pick.kp T.B__law_pick .nil pass0 (pa_cons (pv 0) (pa_cons (pe_ifExp (pt_val (pv 2)) pe_int pe_int) pa_nil))))
 (pss_one (ps_ret (pe_op op_add_str (pe_ix ix_str (pv 3) (pe_call (ok__law_pick T) (hr.mono (by decide)) rfl T.m__law_pick T.F__law_pick.kp T.B__law_pick .nil pass0 (pa_cons (pv 0) (pa_cons pe_int pa_nil))) (fun _ _ => rfl)) (pe_join pe_str (pe_lc (own := [("k", 9)]) (by rfl) sc__law_piece.nd (pi_range1 (by rfl) T.b_range (pa_cons (pv 6) pa_nil)) (blkOk_by (own := [("k", 9)]) (N := N__law_piece) (sc := defScope s__law_piece) (by decide +kernel)) (fun _ _ _ _ _ => (pg_name (i := 9) sc__law_piece.nd rfl (by first | exact Or.inl rfl | exact Or.inr rfl))) (fun _ _ _ _ _ => pts_nil) (fun _ _ _ _ _ => (pe_ix ix_str (pe_op op_add_str (pv 3) (pv 4)) (pe_call (ok__law_pick T) (hr.mono (by decide)) rfl T.m__law_pick T.F__law_pick.kp T.B__law_pick .nil pass0 (pa_cons (pv 0) (pa_cons pe_int pa_nil))) (fun _ _ => rfl)))))))))
 pss_nil)
 (pss_cons (ps_if (pt_cmpR op_eq (pv 5) pe_int (nomark _))
 (pss_one (ps_ret (pe_join pe_str (pe_lc (own := [("k", 9)]) (by rfl) sc__law_piece.nd (pi_range1 (by rfl) T.b_range (pa_cons (pe_op op_add pe_int (pe_call (ok__law_pick T) (hr.mono (by decide)) rfl T.m__law_pick T.F__law_pick.kp T.B__law_pick .nil pass0 (pa_cons (pv 0) (pa_cons (pe_ifExp (pt_val (pv 2)) pe_int pe_int) pa_nil)))) pa_nil)) (blkOk_by (own := [("k", 9)]) (N := N__law_piece) (sc := defScope s__law_piece) (by decide +kernel)) (fun _ _ _ _ _ => (pg_name (i := 9) sc__law_piece.nd rfl (by first | exact Or.inl rfl | exact Or.inr rfl))) (fun _ _ _ _ _ => pts_nil) (fun _ _ _ _ _ => (pe_ix ix_str (pv 4) (pe_call (ok__law_pick T) (hr.mono (by decide)) rfl T.m__law_pick T.F__law_pick.kp T.B__law_pick .nil pass0 (pa_cons (pv 0) (pa_cons pe_int pa_nil))) (fun _ _ => rfl)))))))
 pss_nil)
 (pss_cons (ps_if (pt_cmpR op_eq (pv 5) pe_int (nomark _))
 (pss_one (ps_ret (pe_ix ix_list (pe_lst (pa_cons pe_str (pa_cons pe_str (pa_cons pe_str (pa_cons pe_str (pa_cons pe_str pa_nil)))))) (pe_call (ok__law_pick T) (hr.mono (by decide)) rfl T.m__law_pick T.F__law_pick.kp T.B__law_pick .nil pass0 (pa_cons (pv 0) (pa_cons pe_int pa_nil))) (fun _ _ => rfl))))
 pss_nil)
 (pss_cons (ps_if (pt_cmpR op_lt (pv 5) pe_int (nomark _))
 (pss_one (ps_ret (pe_ix ix_list (pe_lst (pa_cons pe_str (pa_cons pe_str (pa_cons pe_str (pa_cons pe_str pa_nil))))) (pe_call (ok__law_pick T) (hr.mono (by decide)) rfl T.m__law_pick T.F__law_pick.kp T.B__law_pick .nil pass0 (pa_cons (pv 0) (pa_cons pe_int pa_nil))) (fun _ _ => rfl))))
 pss_nil)
 (pss_cons (ps_if (pt_cmpR op_eq (pv 5) pe_int (nomark _))
 (pss_one (ps_ret pe_str))
 pss_nil)
 (pss_cons (ps_if (pt_val (pv 1))
 (pss_cons (ps_set (i := 7) sc__law_piece.nd rfl (by first | exact Or.inl rfl | exact Or.inr rfl) pe_str)
 (pss_one (ps_ret (pe_ix ix_str (pv 7) (pe_call (ok__law_pick T) (hr.mono (by decide)) rfl T.m__law_pick T.F__law_pick.kp T.B__law_pick .nil pass0 (pa_cons (pv 0) (pa_cons (pe_callB call_len_str (by rfl) T.b_len PySem.boot_len (pa_cons (pv 7) pa_nil)) pa_nil))) (fun _ _ => rfl)))))
 pss_nil)
 (pss_cons (ps_if (pt_cmpR op_gt (pe_call (ok__law_pick T) (hr.mono (by decide)) rfl T.m__law_pick T.F__law_pick.kp T.B__law_pick .nil pass0 (pa_cons (pv 0) (pa_cons pe_int pa_nil))) pe_int (nomark _))
 (pss_one (ps_ret pe_str))
 pss_nil)
 (pss_cons (ps_set (i := 8) sc__law_piece.nd rfl (by first | exact Or.inl rfl | exact Or.inr rfl) pe_str)
 (pss_one (ps_ret (pe_op op_add_str (pe_op op_add_str pe_str (pe_join pe_str (pe_lc (own := [("k", 9)]) (by rfl) sc__law_piece.nd (pi_range1 (by rfl) T.b_range (pa_cons (pe_call (ok__law_pick T) (hr.mono (by decide)) rfl T.m__law_pick T.F__law_pick.kp T.B__law_pick .nil pass0 (pa_cons (pv 0) (pa_cons pe_int pa_nil))) pa_nil)) (blkOk_by (own := [("k", 9)]) (N := N__law_piece) (sc := defScope s__law_piece) (by decide +kernel)) (fun _ _ _ _ _ => (pg_name (i := 9) sc__law_piece.nd rfl (by first | exact Or.inl rfl | exact Or.inr rfl))) (fun _ _ _ _ _ => pts_nil) (fun _ _ _ _ _ => (pe_ix ix_str (pv 8) (pe_call (ok__law_pick T) (hr.mono (by decide)) rfl T.m__law_pick T.F__law_pick.kp T.B__law_pick .nil pass0 (pa_cons (pv 0) (pa_cons (pe_callB call_len_str (by rfl) T.b_len PySem.boot_len (pa_cons (pv 8) pa_nil)) pa_nil))) (fun _ _ => rfl)))))) pe_str)))))))))))))))⟩

theorem ok__law_piece (T : Txt K mg) : FnOk P w K mg base CX0 2 T.f__law_piece T.fd__law_piece ["s", "odd", "wide"] sp_law_piece := by
  refine T.F__law_piece.ok sc__law_piece (fun vs H Q E h => ?_) (fun cdv A outer s H vs Q E hr h => ?_)
  · obtain ⟨_, _, _, _, rfl, _⟩ := h
    rfl
  · obtain ⟨p, q, odd, wide, rfl, hs, k⟩ := h
    refine ⟨_, (dv__law_piece T hr).2, ?_⟩
    dsimp only [dv__law_piece]
    have la : ("abcdefghijklmnopqrstuvwxyz" : Str).length = 26 := by decide +kernel
    have la' : ("abcdefghijklmnopqrstuvwxyz" : Str).cps.toList.length = 26 := by decide +kernel
    have ld : ("0123456789" : Str).length = 10 := by decide +kernel
    have ld' : ("0123456789" : Str).cps.toList.length = 10 := by decide +kernel
    have lo : ("ABCXYZ-_;!?()[]{}<>+*/|&^~@$'\"\\\t`" : Str).length = 33 := by decide +kernel
    have lo' : ("ABCXYZ-_;!?()[]{}<>+*/|&^~@$'\"\\\t`" : Str).cps.toList.length = 33 := by decide +kernel
    have li : ("ab Z9#->=.,:'k" : Str).length = 14 := by decide +kernel
    have li' : ("ab Z9#->=.,:'k" : Str).cps.toList.length = 14 := by decide +kernel
    have ad : (("abcdefghijklmnopqrstuvwxyz" : Str) ++ ("0123456789" : Str)).length = 36 := by decide +kernel
    have ad' : (("abcdefghijklmnopqrstuvwxyz" : Str) ++ ("0123456789" : Str)).cps.toList.length = 36 := by decide +kernel
    have e0 : ("" : Str).length = 0 := by decide +kernel
    have eh : ("#" : Str).length = 1 := by decide +kernel
    have en : ("\n" : Str).length = 1 := by decide +kernel
    have es : (" " : Str).length = 1 := by decide +kernel
    generalize (Str.ofString "ABCXYZ-_;!?()[]{}<>+*/|&^~@$'\"\\\t`") = Lo at *
    generalize (Str.ofString "ab Z9#->=.,:'k") = Li at *
    generalize (Str.ofString "abcdefghijklmnopqrstuvwxyz") = La at *
    generalize (Str.ofString "0123456789") = Ld at *
    walk_at "rd"
    refine pick_of hs (by decide) (by decide) fun r0 H1 hr0 d1 => ?_
    have hs1 := d1.src
    walk_at "rd"
    refine if_d (fun _ => ?_) (fun _ => ?_)
    · refine ⟨rfl, fun pk H2 s2 hpn hk2 => ?_⟩
      have d2 := d1.same s2
      walk_at "rd"
      refine pick_of d2.src (by decide) (by decide) fun r1 H3 hr1 d3 => ?_
      obtain ⟨n1, n2⟩ := d1.src.ne hpn
      have hk3 := d3.keep _ _ hk2 n1 n2
      obtain ⟨z, hz, hx⟩ := atI_strs (b := 6) (xs := keysV) (by decide +kernel) (r := r1) (by show r1 < 27; omega)
      walk_at "rd"
      exact k _ _ (by omega) (d2.trans d3)
    walk_at "rd"
    refine if_d (fun _ => ?_) (fun _ => ?_)
    · walk_at "rd"
      refine if_c (fun _ => ?_) (fun _ => ?_)
      · refine pick_of hs1 (by decide) (by decide) fun m H2 hm d2 => ?_
        have d02 := d1.trans d2
        walk_at "rd"
        refine pick_of d02.src (by decide) (by decide) fun r1 H3 hr1 d3 => ?_
        have d03 := d02.trans d3
        walk_at "rd"
        refine lc_draw (b := 1) d03.src (by omega) (fun c H7 hs7 N hN hk => ?_) (fun x => rfl) fun D H8 zs hD d8 hat8 hzl hz1 => ?_
        · walk_at "rd"
          refine pick_of hs7 (by decide) (by decide) fun r7 H9 hr7 d9 => ?_
          walk_at "rd"
          exact hN _ _ (Nat.le_refl _) d9
        have d08 := d03.trans d8
        have hjl := join_len hz1
        have hss := sum_le hz1
        have hjs : (zs.map (·.length)).sum + zs.length * ("" : Str).length ≤ 16777216 := by rw [e0]; omega
        have e1 : (⟨#[La.cps.toList.getD r1 0]⟩ : Str).length = 1 := rfl
        walk_at "rd"
        refine k _ _ ?_ d08
        rw [slen_app, e1]; omega
      · refine pick_of hs1 (by decide) (by decide) fun m H2 hm d2 => ?_
        have d02 := d1.trans d2
        walk_at "rd"
        refine pick_of d02.src (by decide) (by decide) fun r1 H3 hr1 d3 => ?_
        have d03 := d02.trans d3
        walk_at "rd"
        refine lc_draw (b := 1) d03.src (by omega) (fun c H7 hs7 N hN hk => ?_) (fun x => rfl) fun D H8 zs hD d8 hat8 hzl hz1 => ?_
        · walk_at "rd"
          refine pick_of hs7 (by decide) (by decide) fun r7 H9 hr7 d9 => ?_
          walk_at "rd"
          exact hN _ _ (Nat.le_refl _) d9
        have d08 := d03.trans d8
        have hjl := join_len hz1
        have hss := sum_le hz1
        have hjs : (zs.map (·.length)).sum + zs.length * ("" : Str).length ≤ 16777216 := by rw [e0]; omega
        have e1 : (⟨#[La.cps.toList.getD r1 0]⟩ : Str).length = 1 := rfl
        walk_at "rd"
        refine k _ _ ?_ d08
        rw [slen_app, e1]; omega
    walk_at "rd"
    refine if_d (fun _ => ?_) (fun _ => ?_)
    · walk_at "rd"
      refine if_c (fun _ => ?_) (fun _ => ?_)
      · refine pick_of hs1 (by decide) (by decide) fun m H2 hm d2 => ?_
        have d02 := d1.trans d2
        walk_at "rd"
        refine lc_draw (b := 1) d02.src (by omega) (fun c H7 hs7 N hN hk => ?_) (fun x => rfl) fun D H8 zs hD d8 hat8 hzl hz1 => ?_
        · walk_at "rd"
          refine pick_of hs7 (by decide) (by decide) fun r7 H9 hr7 d9 => ?_
          walk_at "rd"
          exact hN _ _ (Nat.le_refl _) d9
        have d08 := d02.trans d8
        have hjl := join_len hz1
        have hss := sum_le hz1
        have hjs : (zs.map (·.length)).sum + zs.length * ("" : Str).length ≤ 16777216 := by rw [e0]; omega
        walk_at "rd"
        exact k _ _ (by omega) d08
      · refine pick_of hs1 (by decide) (by decide) fun m H2 hm d2 => ?_
        have d02 := d1.trans d2
        walk_at "rd"
        refine lc_draw (b := 1) d02.src (by omega) (fun c H7 hs7 N hN hk => ?_) (fun x => rfl) fun D H8 zs hD d8 hat8 hzl hz1 => ?_
        · walk_at "rd"
          refine pick_of hs7 (by decide) (by decide) fun r7 H9 hr7 d9 => ?_
          walk_at "rd"
          exact hN _ _ (Nat.le_refl _) d9
        have d08 := d02.trans d8
        have hjl := join_len hz1
        have hss := sum_le hz1
        have hjs : (zs.map (·.length)).sum + zs.length * ("" : Str).length ≤ 16777216 := by rw [e0]; omega
        walk_at "rd"
        exact k _ _ (by omega) d08
    walk_at "rd"
    refine if_d (fun _ => ?_) (fun _ => ?_)
    · walk_at "rd"
      intro l0 hl0
      have d2 : Dr H (upd H1 l0 (.lst [.str "=", .str ".", .str ",", .str ":", .str "->"])) p q := d1.new hl0
      have hk2 : upd H1 l0 (.lst [.str "=", .str ".", .str ",", .str ":", .str "->"]) l0 = _ := upd_same
      walk_at "rd"
      refine pick_of d2.src (by decide) (by decide) fun r1 H3 hr1 d3 => ?_
      have hk3 := d3.keep _ _ hk2 (hs1.ne hl0).1 (hs1.ne hl0).2
      obtain ⟨z, hz, hx⟩ := atI_strs (b := 6) (xs := [V.str "=", V.str ".", V.str ",", V.str ":", V.str "->"]) (by decide +kernel) (r := r1) (by show r1 < 5; omega)
      walk_at "rd"
      exact k _ _ (by omega) (d2.trans d3)
    walk_at "rd"
    refine if_d (fun _ => ?_) (fun _ => ?_)
    · walk_at "rd"
      intro l0 hl0
      have d2 : Dr H (upd H1 l0 (.lst [.str " ", .str "  ", .str " ", .str "     "])) p q := d1.new hl0
      have hk2 : upd H1 l0 (.lst [.str " ", .str "  ", .str " ", .str "     "]) l0 = _ := upd_same
      walk_at "rd"
      refine pick_of d2.src (by decide) (by decide) fun r1 H3 hr1 d3 => ?_
      have hk3 := d3.keep _ _ hk2 (hs1.ne hl0).1 (hs1.ne hl0).2
      obtain ⟨z, hz, hx⟩ := atI_strs (b := 6) (xs := [V.str " ", V.str "  ", V.str " ", V.str "     "]) (by decide +kernel) (r := r1) (by show r1 < 4; omega)
      walk_at "rd"
      exact k _ _ (by omega) (d2.trans d3)
    walk_at "rd"
    refine if_d (fun _ => ?_) (fun _ => ?_)
    · walk_at "rd"
      exact k _ _ (by omega) d1
    walk_at "rd"
    refine if_c (fun _ => ?_) (fun _ => ?_)
    · walk_at "rd"
      refine pick_of hs1 (by omega) (by omega) fun r1 H3 hr1 d3 => ?_
      walk_at "rd"
      exact k _ _ (Nat.le_trans (Nat.le_refl 1) (by decide)) (d1.trans d3)
    walk_at "rd"
    refine pick_of hs1 (by decide) (by decide) fun r1 H2 hr1 d2 => ?_
    have d02 := d1.trans d2
    walk_at "rd"
    refine if_d (fun _ => ?_) (fun _ => ?_)
    · walk_at "rd"
      exact k _ _ (by omega) d02
    walk_at "rd"
    refine pick_of d02.src (by decide) (by decide) fun m H3 hm d3 => ?_
    have d03 := d02.trans d3
    walk_at "rd"
    refine lc_draw (b := 1) d03.src (by omega) (fun c H7 hs7 N hN hk => ?_) (fun x => rfl) fun D H8 zs hD d8 hat8 hzl hz1 => ?_
    · walk_at "rd"
      refine pick_of hs7 (by omega) (by omega) fun r7 H9 hr7 d9 => ?_
      walk_at "rd"
      exact hN _ _ (Nat.le_refl _) d9
    have d08 := d03.trans d8
    have hjl := join_len hz1
    have hss := sum_le hz1
    have hjs : (zs.map (·.length)).sum + zs.length * ("" : Str).length ≤ 16777216 := by rw [e0]; omega
    walk_at "rd"
    have hf : (Str.ofString "#" ++ Txt.join (Str.ofString "") zs).length + (Str.ofString "\n").length ≤ 26 := by rw [slen_app]; omega
    refine ⟨by rw [sizeLine_eq]; omega, k _ _ ?_ d08⟩
    rw [slen_app]; exact hf

def ftP (x : Nat × Tk) : PyData := tkF x.1 x.2
def dueOf (text : List Nat) : PyData := match manyOf text with
  | some what => .tuple [.str "many", .str what]
  | none => match firstBad text with
    | some x => ftP x
    | none => .list ((toksAll text).flatten.map tokP)
/-- the words' list p and the faults' list f, which are ours -/
structure W2 (K : PySem.W.Frag) (B H H' : Hp) (p f : Addr) (vs us : List V) (ds es : List PyData) : Prop where
  hp : H p = none
  hf : H f = none
  npf : p ≠ f
  hh : Same H H'
  ap : H' p = some (.lst vs)
  af : H' f = some (.lst us)
  ex : ∃ S, Same B S ∧ (∀ b, H b ≠ none → S b = B b) ∧ Same S H' ∧ S p = none ∧ S f = none ∧ DpAll K S vs ds ∧ DpAll K S us es
theorem W2.start {S0 H : Hp} {p f a : Addr} {o : HO} (hS : Same S0 H) (hp : H p = none) (hf : upd H p (.lst []) f = none) (ha : upd (upd H p (.lst [])) f (.lst []) a = none) : W2 K (upd S0 a o) H (upd (upd (upd H p (.lst [])) f (.lst [])) a o) p f [] [] [] [] := by
  have n : p ≠ f := ne_of_none upd_same hf
  have nfa : f ≠ a := ne_of_none upd_same ha
  have npa : p ≠ a := ne_of_none ((upd_ne n).trans upd_same) ha
  have hf0 : H f = none := by rw [upd_ne (Ne.symm n)] at hf; exact hf
  have hs : Same H (upd (upd H p (.lst [])) f (.lst [])) := (Same.upd hp).trans (Same.upd hf)
  refine ⟨hp, hf0, n, hs.trans (Same.upd ha), (upd_ne npa).trans ((upd_ne n).trans upd_same), (upd_ne nfa).trans upd_same, upd S0 a o, Same.refl _, fun _ _ => rfl, fun b u eb => ?_, (upd_ne npa).trans (Same.free hS hp), (upd_ne nfa).trans (Same.free hS hf0), .nil, .nil⟩
  by_cases hb : b = a
  · subst hb; rw [upd_same] at eb ⊢; exact eb
  · rw [upd_ne hb] at eb ⊢; exact hs b u (hS _ _ eb)
theorem W2.keep {B H H' : Hp} {p f a : Addr} {o : HO} {vs us : List V} {ds es : List PyData} (w : W2 K B H H' p f vs us ds es) (h : B a = some o) : H' a = some o := by
  obtain ⟨hp, hf, n, hh, ap, af, S, sb, so, s, sp, sf, d, e⟩ := w
  exact s _ _ (sb _ _ h)
theorem W2.same {B H H' H2 : Hp} {p f : Addr} {vs us : List V} {ds es : List PyData} (a : W2 K B H H' p f vs us ds es) (h : Same H' H2) : W2 K B H H2 p f vs us ds es := by
  obtain ⟨hp, hf, n, hh, ap, af, S, sb, so, s, sp, sf, d, e⟩ := a
  exact ⟨hp, hf, n, hh.trans h, h _ _ ap, h _ _ af, S, sb, so, s.trans h, sp, sf, d, e⟩
theorem W2.new {B H H' : Hp} {p f q : Addr} {o : HO} {vs us : List V} {ds es : List PyData} (a : W2 K B H H' p f vs us ds es) (h : H' q = none) : W2 K B H (upd H' q o) p f vs us ds es := a.same (Same.upd h)
theorem W2.word {B H H' : Hp} {p f q : Addr} {xs vs us : List V} {ds es ts : List PyData} (a : W2 K B H H' p f vs us ds es) (hq : H' q = none) (hx : ∀ S, DpAll K S xs ts) :
    W2 K B H (upd (upd H' q (.tup xs)) p (.lst (vs ++ [.ref q]))) p f (vs ++ [.ref q]) us (ds ++ [.tuple ts]) es := by
  obtain ⟨hp, hf, n, hh, ap, af, S, sb, so, s, sp, sf, d, e⟩ := a
  have nq : S q = none := Same.free s hq
  have npq : p ≠ q := ne_of_none ap hq
  have nfq : f ≠ q := ne_of_none af hq
  have s1 : Same (upd S q (.tup xs)) (upd H' q (.tup xs)) := fun b u eb => by
    by_cases hb : b = q
    · subst hb; rw [upd_same] at eb ⊢; exact eb
    · rw [upd_ne hb] at eb ⊢; exact s b u eb
  exact ⟨hp, hf, n, Same.mut (hh.trans (Same.upd hq)) hp, upd_same, (upd_ne (Ne.symm n)).trans ((upd_ne nfq).trans af), upd S q (.tup xs), sb.trans (Same.upd nq), fun b hb => (upd_ne (fun z => hb (by rw [z]; exact Same.free hh hq))).trans (so b hb),
    Same.mut s1 ((upd_ne npq).trans sp), (upd_ne npq).trans sp, (upd_ne nfq).trans sf,
    DpAll.snoc (DpAll.mono (Same.upd nq) d) (.tup (SqT.of upd_same) (hx _)), DpAll.mono (Same.upd nq) e⟩
theorem W2.fault {B H H' : Hp} {p f q : Addr} {xs vs us : List V} {ds es ts : List PyData} (a : W2 K B H H' p f vs us ds es) (hq : H' q = none) (hx : ∀ S, DpAll K S xs ts) :
    W2 K B H (upd (upd H' q (.tup xs)) f (.lst (us ++ [.ref q]))) p f vs (us ++ [.ref q]) ds (es ++ [.tuple ts]) := by
  obtain ⟨hp, hf, n, hh, ap, af, S, sb, so, s, sp, sf, d, e⟩ := a
  have nq : S q = none := Same.free s hq
  have npq : p ≠ q := ne_of_none ap hq
  have nfq : f ≠ q := ne_of_none af hq
  have s1 : Same (upd S q (.tup xs)) (upd H' q (.tup xs)) := fun b u eb => by
    by_cases hb : b = q
    · subst hb; rw [upd_same] at eb ⊢; exact eb
    · rw [upd_ne hb] at eb ⊢; exact s b u eb
  exact ⟨hp, hf, n, Same.mut (hh.trans (Same.upd hq)) hf, (upd_ne n).trans ((upd_ne npq).trans ap), upd_same, upd S q (.tup xs), sb.trans (Same.upd nq), fun b hb => (upd_ne (fun z => hb (by rw [z]; exact Same.free hh hq))).trans (so b hb),
    Same.mut s1 ((upd_ne nfq).trans sf), (upd_ne npq).trans sp, (upd_ne nfq).trans sf,
    DpAll.mono (Same.upd nq) d, DpAll.snoc (DpAll.mono (Same.upd nq) e) (.tup (SqT.of upd_same) (hx _))⟩
theorem key_bad {b : Bool} : ¬ ((if b = true then ("key" : Str) else "name") = "bad") := by cases b <;> decide +kernel
theorem num_bad : ¬ (("number" : Str) = "bad") := by decide +kernel
theorem step_key {l wd : List Nat} {j : Nat} (h : j < l.length) (h1 : l.getD j 0 ≠ 35) (h2 : isRun (l.getD j 0) = true) (hwd : wordAt l j (runEnd l j) = wd) (hw0 : wd.getD 0 0 = l.getD j 0) (hsm : isSm (l.getD j 0) = true) :
    Step l j (runEnd l j) [(j, (if kIn wd = true then ("key" : Str) else "name"), mkS wd)] [] (decide (16 < runEnd l j - j)) false := by
  have e : runSort wd = if kIn wd = true then ("key" : Str) else "name" := by unfold runSort; rw [hw0, if_pos hsm]
  have hs := step_run h h1 h2 (j, (if kIn wd = true then ("key" : Str) else "name"), mkS wd) (by rw [hwd, e, if_neg key_bad])
  have hb : badT (j, (if kIn wd = true then ("key" : Str) else "name"), mkS wd) = false := decide_eq_false key_bad
  have h3 : longOne false l (j, runEnd l j) = decide (16 < runEnd l j - j) := by unfold longOne; dsimp only; rw [dg_of hsm]; rfl
  have h4 : longOne true l (j, runEnd l j) = false := by unfold longOne; dsimp only; rw [dg_of hsm]; rfl
  rw [hb, h3, h4] at hs
  exact hs
theorem step_num {l wd : List Nat} {j : Nat} (h : j < l.length) (h1 : l.getD j 0 ≠ 35) (h2 : isRun (l.getD j 0) = true) (hwd : wordAt l j (runEnd l j) = wd) (hw0 : wd.getD 0 0 = l.getD j 0) (hsm : isSm (l.getD j 0) = false)
    (hn : (wd.all isDg && (decide (wd = [48]) || !decide (l.getD j 0 = 48))) = true) :
    Step l j (runEnd l j) [(j, ("number" : Str), mkS wd)] [] false (decide (9 < runEnd l j - j)) := by
  have e : runSort wd = ("number" : Str) := by unfold runSort; rw [hw0, if_neg (by rw [hsm]; decide), if_pos hn]
  have hs := step_run h h1 h2 (j, ("number" : Str), mkS wd) (by rw [hwd, e, if_neg num_bad])
  have hb : badT (j, ("number" : Str), mkS wd) = false := decide_eq_false num_bad
  have h3 : longOne false l (j, runEnd l j) = false := by unfold longOne; dsimp only; rw [dg_if h2 hsm]; rfl
  have h4 : longOne true l (j, runEnd l j) = decide (9 < runEnd l j - j) := by unfold longOne; dsimp only; rw [dg_if h2 hsm]; rfl
  rw [hb, h3, h4] at hs
  exact hs
theorem step_wrong {l wd : List Nat} {j : Nat} (h : j < l.length) (h1 : l.getD j 0 ≠ 35) (h2 : isRun (l.getD j 0) = true) (hwd : wordAt l j (runEnd l j) = wd) (hw0 : wd.getD 0 0 = l.getD j 0) (hsm : isSm (l.getD j 0) = false)
    (hn : (wd.all isDg && (decide (wd = [48]) || !decide (l.getD j 0 = 48))) = false) :
    Step l j (runEnd l j) [] [(j, ("bad" : Str), ("number" : Str))] false (decide (9 < runEnd l j - j)) := by
  have e : runSort wd = ("bad" : Str) := by unfold runSort; rw [hw0, if_neg (by rw [hsm]; decide), if_neg (by rw [hn]; decide)]
  have hs := step_run h h1 h2 (j, ("bad" : Str), ("number" : Str)) (by rw [hwd, e, if_pos rfl])
  have hb : badT (j, ("bad" : Str), ("number" : Str)) = true := decide_eq_true rfl
  have h3 : longOne false l (j, runEnd l j) = false := by unfold longOne; dsimp only; rw [dg_if h2 hsm]; rfl
  have h4 : longOne true l (j, runEnd l j) = decide (9 < runEnd l j - j) := by unfold longOne; dsimp only; rw [dg_if h2 hsm]; rfl
  rw [hb, h3, h4] at hs
  exact hs
theorem W2.ext {S0 B H H' : Hp} {p f a : Addr} {o : HO} {vs us : List V} {ds es : List PyData} (w : W2 K B H H' p f vs us ds es) (hB : B = upd S0 a o) (hS : Same S0 H) (ha : H a = none) :
    ∃ S, Ext S0 H S H' ∧ S p = none ∧ S f = none ∧ DpAll K S vs ds ∧ DpAll K S us es := by
  obtain ⟨hp, hf, n, hh, ap, af, S, sb, so, s, sp, sf, d, e⟩ := w
  subst hB
  have na : S0 a = none := Same.free hS ha
  exact ⟨S, ⟨hh, (Same.upd na).trans sb, s, fun b hb => (so b hb).trans (upd_ne fun z => hb (by rw [z]; exact ha))⟩, sp, sf, d, e⟩
def sp_law_walk (K : PySem.W.Frag) : Sp := fun vs H Q _ => ∃ (text : List Nat) (S : Hp), vs = [.str (mkS text)] ∧ text.length ≤ 3000 ∧ Same S H ∧
  ∀ v S' H', Ext S H S' H' → Dp K S' v (dueOf text) → Q v H'
noncomputable def dv__law_walk (T : Txt K mg) {cdv : Value} {A : Around} {outer : List Env} {s : Shared} {H : Hp} {E : XK} (hr : Room 1 (A.deeper (PyProof.Rows.envOfC "_law_walk" (defScope s__law_walk) s.heap.objs.size T.f__law_walk cdv))) :
  { t : TS // PSs (cxOf (CX0) P w K mg base N__law_walk "_law_walk" (defScope s__law_walk) T.f__law_walk cdv A outer s H E).nox (defBody s__law_walk) t } := by
  have hu := hu_of hr
  have hu65 := hu65_of hr
  exact ⟨_, (pss_cons (ps_set (i := 1) sc__law_walk.nd rfl (by first | exact Or.inl rfl | exact Or.inr rfl) pe_str)
 (pss_cons (ps_set (i := 2) sc__law_walk.nd rfl (by first | exact Or.inl rfl | exact Or.inr rfl) pe_str)
 (pss_cons (ps_set (i := 3) sc__law_walk.nd rfl (by first | exact Or.inl rfl | exact Or.inr rfl) (pe_op op_add_str (pv 1) (pv 2)))
 (pss_cons (ps_set (i := 4) sc__law_walk.nd rfl (by first | exact Or.inl rfl | exact Or.inr rfl) (pe_lst pa_nil))
 (pss_cons (ps_set (i := 5) sc__law_walk.nd rfl (by first | exact Or.inl rfl | exact Or.inr rfl) (pe_lst pa_nil))
 (pss_cons (ps_set (i := 6) sc__law_walk.nd rfl (by first | exact Or.inl rfl | exact Or.inr rfl) pe_bl)
 (pss_cons (ps_set (i := 7) sc__law_walk.nd rfl (by first | exact Or.inl rfl | exact Or.inr rfl) pe_bl)
 (pss_cons (ps_set (i := 8) sc__law_walk.nd rfl (by first | exact Or.inl rfl | exact Or.inr rfl) pe_int)
 (pss_cons (ps_for PassesOwn.never rfl (pi_list (pe_split (pv 0) pe_str)) (pg_name (i := 9) sc__law_walk.nd rfl (by first | exact Or.inl rfl | exact Or.inr rfl))
 (pss_cons (ps_set (i := 10) sc__law_walk.nd rfl (by first | exact Or.inl rfl | exact Or.inr rfl) pe_int)
 (pss_cons (ps_while PassesOwn.never (PW.pt (pw_and (pt_cmpR op_lt (pv 10) (pe_callB call_len_str (by rfl) T.b_len PySem.boot_len (pa_cons (pv 9) pa_nil)) (nomark _)) (pw_and1 (pt_cmpR op_ne (pe_ix ix_str (pv 9) (pv 10) (fun _ _ => rfl)) pe_str (nomark _)))))
 (pss_cons (ps_set (i := 11) sc__law_walk.nd rfl (by first | exact Or.inl rfl | exact Or.inr rfl) (pv 10))
 (pss_cons (ps_while PassesOwn.never (PW.pt (pw_and (pt_cmpR op_lt (pv 11) (pe_callB call_len_str (by rfl) T.b_len PySem.boot_len (pa_cons (pv 9) pa_nil)) (nomark _)) (pw_and1 (pt_cmpR op_in_sign (pe_ix ix_str (pv 9) (pv 11) (fun _ _ => rfl)) (pv 3) rfl))))
 (pss_one (ps_aug (i := 11) sc__law_walk.nd rfl (by first | exact Or.inl rfl | exact Or.inr rfl) pe_int ip_add)))
 (pss_cons (ps_set (i := 12) sc__law_walk.nd rfl (by first | exact Or.inl rfl | exact Or.inr rfl) (pe_slice sl_str (pv 9) (po_some (pv 10)) (po_some (pv 11))))
 (pss_one (ps_if (pt_truth (pv 12) (by intro _; rfl))
 (pss_cons (ps_set (i := 13) sc__law_walk.nd rfl (by first | exact Or.inl rfl | exact Or.inr rfl) (pe_callB (cr_all rfl) (by rfl) T.b_all (by decide +kernel) (pa_cons (pe_lc (own := [("sign", 14)]) (by rfl) sc__law_walk.nd (pi_str (pv 12)) (blkOk_by (own := [("sign", 14)]) (N := N__law_walk) (sc := defScope s__law_walk) (by decide +kernel)) (fun _ _ _ _ _ => (pg_name (i := 14) sc__law_walk.nd rfl (by first | exact Or.inl rfl | exact Or.inr rfl))) (fun _ _ _ _ _ => pts_nil) (fun _ _ _ _ _ => (pe_cmpR op_in_sign (pv 14) (pv 2) rfl))) pa_nil)))
 (pss_cons (ps_if (pt_cmpR op_in_sign (pe_ix ix_str (pv 12) pe_int (fun _ _ => rfl)) (pv 1) rfl)
 (pss_cons (ps_set (i := 6) sc__law_walk.nd rfl (by first | exact Or.inl rfl | exact Or.inr rfl) (pe_or (pv 6) (pe_one (pe_cmpR op_gt (pe_callB call_len_str (by rfl) T.b_len PySem.boot_len (pa_cons (pv 12) pa_nil)) pe_int (nomark _)))))
 (pss_one (ps_expr (pe_bm PySem.F.plainAttrs_list PySem.F.slot_list_append PySem.F.type_list_append mt_append (pv 4) (pa_cons (pe_tup (pa_cons (pv 8) (pa_cons (pe_op op_add (pv 10) pe_int) (pa_cons (pe_ifExp (pt_cmpR op_in_seq (pv 12) (pe_call0 (ok__law_keys T) (hr.mono (by decide)) rfl T.m__law_keys T.F__law_keys.kp T.B__law_keys .nil pass0) rfl) pe_str pe_str) (pa_cons (pv 12) pa_nil))))) pa_nil)))))
 (pss_cons (ps_set (i := 7) sc__law_walk.nd rfl (by first | exact Or.inl rfl | exact Or.inr rfl) (pe_or (pv 7) (pe_one (pe_cmpR op_gt (pe_callB call_len_str (by rfl) T.b_len PySem.boot_len (pa_cons (pv 12) pa_nil)) pe_int (nomark _)))))
 (pss_one (ps_if (PW.pt (pw_and (pt_val (pv 13)) (pw_and1 (PW.pt (pw_or (pt_cmpR op_eq (pv 12) pe_str (nomark _)) (pw_or1 (pt_cmpR op_ne (pe_ix ix_str (pv 12) pe_int (fun _ _ => rfl)) pe_str (nomark _))))))))
 (pss_one (ps_expr (pe_bm PySem.F.plainAttrs_list PySem.F.slot_list_append PySem.F.type_list_append mt_append (pv 4) (pa_cons (pe_tup (pa_cons (pv 8) (pa_cons (pe_op op_add (pv 10) pe_int) (pa_cons pe_str (pa_cons (pv 12) pa_nil))))) pa_nil))))
 (pss_one (ps_expr (pe_bm PySem.F.plainAttrs_list PySem.F.slot_list_append PySem.F.type_list_append mt_append (pv 5) (pa_cons (pe_tup (pa_cons pe_str (pa_cons (pv 8) (pa_cons (pe_op op_add (pv 10) pe_int) (pa_cons pe_str pa_nil))))) pa_nil))))))))
 (pss_one (ps_set (i := 10) sc__law_walk.nd rfl (by first | exact Or.inl rfl | exact Or.inr rfl) (pv 11)))))
 (pss_one (ps_if (pt_cmpR op_eq (pe_slice sl_str (pv 9) (po_some (pv 10)) (po_some (pe_op op_add (pv 10) pe_int))) pe_str (nomark _))
 (pss_cons (ps_expr (pe_bm PySem.F.plainAttrs_list PySem.F.slot_list_append PySem.F.type_list_append mt_append (pv 4) (pa_cons (pe_tup (pa_cons (pv 8) (pa_cons (pe_op op_add (pv 10) pe_int) (pa_cons pe_str (pa_cons pe_str pa_nil))))) pa_nil)))
 (pss_one (ps_aug (i := 10) sc__law_walk.nd rfl (by first | exact Or.inl rfl | exact Or.inr rfl) pe_int ip_add)))
 (pss_cons (ps_if (pt_cmpR op_in_seq (pe_ix ix_str (pv 9) (pv 10) (fun _ _ => rfl)) (pe_tup (pa_cons pe_str (pa_cons pe_str (pa_cons pe_str (pa_cons pe_str pa_nil))))) rfl)
 (pss_one (ps_expr (pe_bm PySem.F.plainAttrs_list PySem.F.slot_list_append PySem.F.type_list_append mt_append (pv 4) (pa_cons (pe_tup (pa_cons (pv 8) (pa_cons (pe_op op_add (pv 10) pe_int) (pa_cons pe_str (pa_cons (pe_ix ix_str (pv 9) (pv 10) (fun _ _ => rfl)) pa_nil))))) pa_nil))))
 (pss_one (ps_if (pt_cmpR op_ne (pe_ix ix_str (pv 9) (pv 10) (fun _ _ => rfl)) pe_str (nomark _))
 (pss_one (ps_expr (pe_bm PySem.F.plainAttrs_list PySem.F.slot_list_append PySem.F.type_list_append mt_append (pv 5) (pa_cons (pe_tup (pa_cons pe_str (pa_cons (pv 8) (pa_cons (pe_op op_add (pv 10) pe_int) (pa_cons pe_str pa_nil))))) pa_nil))))
 pss_nil)))
 (pss_one (ps_aug (i := 10) sc__law_walk.nd rfl (by first | exact Or.inl rfl | exact Or.inr rfl) pe_int ip_add)))))))))))
 (pss_one (ps_aug (i := 8) sc__law_walk.nd rfl (by first | exact Or.inl rfl | exact Or.inr rfl) pe_int ip_add)))))
 (pss_cons (ps_if (pt_val (pv 6))
 (pss_one (ps_ret (pe_tup (pa_cons pe_str (pa_cons pe_str pa_nil)))))
 pss_nil)
 (pss_cons (ps_if (pt_val (pv 7))
 (pss_one (ps_ret (pe_tup (pa_cons pe_str (pa_cons pe_str pa_nil)))))
 pss_nil)
 (pss_one (ps_ret (pe_ifExp (pt_truth (pv 5) (by intro _; rfl)) (pe_ix ix_list (pv 5) pe_int (fun _ _ => rfl)) (pv 4)))))))))))))))⟩

theorem ok__law_walk (T : Txt K mg) : FnOk P w K mg base CX0 2 T.f__law_walk T.fd__law_walk ["text"] (sp_law_walk K) := by
  refine T.F__law_walk.ok sc__law_walk (fun vs H Q E h => ?_) (fun cdv A outer s H vs Q E hr h => ?_)
  · obtain ⟨_, _, rfl, _⟩ := h
    rfl
  · obtain ⟨text, S0, rfl, hl, hS, k⟩ := h
    refine ⟨_, (dv__law_walk T hr).2, ?_⟩
    dsimp only [dv__law_walk]
    have el := sm_len
    have el2 := dg_len
    rw [show (Str.ofString "abcdefghijklmnopqrstuvwxyz") = strSMALL from rfl, show (Str.ofString "0123456789") = strDIGITS from rfl]
    have ekeys := keys_flat
    have esig := signs_flat
    have hnum := linesOf_num (text := text)
    walk_at "rd"
    intro p hp
    walk_at "rd"
    intro f hf
    walk_at "rd"
    intro a ha
    refine ⟨a, rfl, ⟨_, SqL.of upd_same⟩, ?_⟩
    rw [lines_map]
    have w0 := W2.start (K := K) (o := HO.lst ((linesOf text).map fun l => V.str (mkS l))) hS hp hf ha
    have hB : (upd S0 a (HO.lst ((linesOf text).map fun l => V.str (mkS l)))) a = some (HO.lst ((linesOf text).map fun l => V.str (mkS l))) := upd_same
    have haH : H a = none := by
      have n1 : p ≠ a := fun z => by rw [z] at ha; by_cases n2 : a = f; (· rw [n2, upd_same] at ha; cases ha); (· rw [upd_ne n2, upd_same] at ha; cases ha)
      have n2 : f ≠ a := ne_of_none upd_same ha
      rw [upd_ne (Ne.symm n2), upd_ne (Ne.symm n1)] at ha; exact ha
    generalize eB : (upd S0 a (HO.lst ((linesOf text).map fun l => V.str (mkS l)))) = B at *
    refine for_l (xs := (linesOf text).map fun l => V.str (mkS l)) (fun i σ H' => ∃ (vs us : List V) (x9 x10 x11 x12 x13 x14 : Option V), σ = [some (.str (mkS text)), some (.str strSMALL), some (.str strDIGITS), some (.str (strSMALL ++ strDIGITS)), some (.ref p), some (.ref f), some (.bl (lgTo false text i)), some (.bl (lgTo true text i)), some (.int ((i : Int) + 1)), x9, x10, x11, x12, x13, x14] ∧
      W2 K B H H' p f vs us ((wsTo text i).map tokP) ((fsTo text i).map ftP) ∧ vs.length ≤ i * 3000 ∧ us.length ≤ i * 3000)
      ⟨[], [], _, _, _, _, _, _, rfl, w0, Nat.zero_le _, Nat.zero_le _⟩ (fun i σ H' hi h => by obtain ⟨_, _, _, _, _, _, _, _, _, w, _⟩ := h; exact SqL.of (w.keep hB)) ?_ ?_
    · rintro i x σ H2 N hx ⟨vs0, us0, x9, x10, x11, x12, x13, x14, rfl, W0, hvl0, hul0⟩ hN
      rw [List.getElem?_map] at hx
      cases hl0 : (linesOf text)[i]? with
      | none => rw [hl0] at hx; cases hx
      | some l =>
      rw [hl0] at hx
      simp only [Option.map_some, Option.some.injEq] at hx
      subst hx
      have hlm : l ∈ linesOf text := List.mem_of_getElem? hl0
      have hll := linesOf_len hlm
      have hi : i < (linesOf text).length := (List.getElem?_eq_some_iff.mp hl0).1
      walk_at "rd"
      refine wh_by (fun m σ H' => ∃ (j : Nat) (ws fs : List Tk) (nm fg : Bool) (vs us : List V) (x11 x12 x13 x14 : Option V), m = l.length - j ∧ j ≤ l.length ∧
        σ = [some (.str (mkS text)), some (.str strSMALL), some (.str strDIGITS), some (.str (strSMALL ++ strDIGITS)), some (.ref p), some (.ref f), some (.bl (lgTo false text i || nm)), some (.bl (lgTo true text i || fg)), some (.int ((i : Int) + 1)), some (.str (mkS l)), some (.int j), x11, x12, x13, x14] ∧
        W2 K B H H' p f vs us ((wsTo text i ++ ws.map fun t => (i + 1, t)).map tokP) ((fsTo text i ++ fs.map fun t => (i + 1, t)).map ftP) ∧ Got l j ws fs nm fg ∧ vs.length ≤ i * 3000 + j ∧ us.length ≤ i * 3000 + j) _
        ⟨0, [], [], false, false, vs0, us0, _, _, _, _, rfl, Nat.zero_le _, by rw [Bool.or_false, Bool.or_false]; rfl, by simpa using W0, Got.start l, by omega, by omega⟩ ?_
      rintro m σ H' ⟨j, ws, fs, nm, fg, vs, us, x11, x12, x13, x14, rfl, hj, rfl, W, G, hvl, hul⟩
      have fin : (j < l.length ∧ l.getD j 0 ≠ 35) ∨ (ws = gd l 0 ∧ fs = bd l 0 ∧ nm = longLine false l ∧ fg = longLine true l) := by
        by_cases hc : j < l.length ∧ l.getD j 0 ≠ 35
        · exact .inl hc
        · exact .inr (G.fin hc)
      have done : (ws = gd l 0 ∧ fs = bd l 0 ∧ nm = longLine false l ∧ fg = longLine true l) → N [some (.str (mkS text)), some (.str strSMALL), some (.str strDIGITS), some (.str (strSMALL ++ strDIGITS)), some (.ref p), some (.ref f), some (.bl (lgTo false text i || nm)), some (.bl (lgTo true text i || fg)), some (.int ((i : Int) + 1 + 1)), some (.str (mkS l)), some (.int j), x11, x12, x13, x14] H' := by
        rintro ⟨rfl, rfl, rfl, rfl⟩
        rw [← lgTo_succ hl0, ← lgTo_succ hl0]
        refine hN _ _ ⟨vs, us, _, _, _, _, _, _, rfl, ?_, by omega, by omega⟩
        rw [wsTo_succ hl0, fsTo_succ hl0]
        exact W
      walk_at "rd"
      refine if_d (fun h1 => ?_) (fun h1 => ?_)
      · walk_at "rd"
        refine if_nd (fun h2 => ?_) (fun h2 => ?_)
        · have hc : l.getD j 0 ≠ 35 := fun z => h2 (is_hash.mpr z)
          have hj1 : j < l.length := by omega
          refine ex_N fun N2 hN2 => ?_
          walk_at "rd"
          have hgt := @runEnd_ge l j
          have hle := runEnd_le hj
          refine wh_by (fun m σ H2 => ∃ (j2 : Nat), m = l.length - j2 ∧ j ≤ j2 ∧ j2 ≤ l.length ∧ runEnd l j2 = runEnd l j ∧ H2 = H' ∧
            σ = [some (.str (mkS text)), some (.str strSMALL), some (.str strDIGITS), some (.str (strSMALL ++ strDIGITS)), some (.ref p), some (.ref f), some (.bl (lgTo false text i || nm)), some (.bl (lgTo true text i || fg)), some (.int ((i : Int) + 1)), some (.str (mkS l)), some (.int j), some (.int j2), x12, x13, x14]) _ ⟨j, rfl, Nat.le_refl _, hj, rfl, rfl, rfl⟩ ?_
          rintro m σ H2 ⟨j2, rfl, hj2, hj3, he, rfl, rfl⟩
          have stop : ¬ (j2 < l.length ∧ isRun (l.getD j2 0) = true) → j2 = runEnd l j := fun z => by
            rw [← he]
            by_cases z1 : j2 < l.length
            · exact (runEnd_stop (.inr (by simpa using fun z2 => z ⟨z1, z2⟩))).symm
            · exact (runEnd_stop (.inl z1)).symm
          refine (fun (rest : ¬ (j2 < l.length ∧ isRun (l.getD j2 0) = true) → ?R) => ?main) ?hrest
          case main =>
            walk_at "rd"
            refine if_d (fun g1 => ?_) (fun g1 => ?_)
            · walk_at "rd"
              rw [isRun_dec]
              refine if_c (fun g2 => ?_) (fun g2 => ?_)
              · refine ex_N fun N3 hN3 => ?_
                walk_at "rd"
                exact hN3 (l.length - (j2 + 1)) _ _ (by omega) ⟨j2 + 1, rfl, by omega, by omega, by rw [runEnd_go (by omega) g2]; exact he, rfl, rfl⟩
              · exact rest (fun z => by rw [g2] at z; cases z.2)
            · exact rest (fun z => g1 (by omega))
          intro z
          obtain rfl := stop z
          cases hrun : isRun (l.getD j 0) with
          | true =>
            have hgt := runEnd_gt hj1 hrun
            have hwl := wordAt_len hgt hle
            have hw0 : (wordAt l j (runEnd l j)).getD 0 0 = l.getD j 0 := by
              unfold wordAt
              rw [List.getD_eq_getElem?_getD, List.getD_eq_getElem?_getD, List.getElem?_take, if_pos (by omega), List.getElem?_drop]; rfl
            have hc0 := hc
            obtain ⟨wd, hwd⟩ : ∃ wd, wordAt l j (runEnd l j) = wd := ⟨_, rfl⟩
            rw [hwd] at hwl hw0
            have ecut : cutS (mkS l) (some (j : Int)) (some (runEnd l j : Int)) = mkS wd := by rw [cut_some]; exact congrArg mkS hwd
            walk_at "rd"
            rw [ecut]
            refine ⟨(show TruV K (.str (mkS wd)) H2 true from ⟨by rw [sizeLine_eq, mkS_len]; omega, by rw [mkS_len]; symm; rw [bne_iff_ne]; omega⟩), ?_⟩
            walk_at "rd"
            refine lc_s (fun D i H' => Same H2 H' ∧ H' D = some (.lst (((wd.take i).map isDg).map V.bl))) (fun D hD => ⟨Same.upd hD, upd_same⟩) (fun D i c H' N hD hc ⟨sD, aD⟩ hN => ?_) fun D H3 hD ⟨sD, aD⟩ => ?_
            · refine ⟨rfl, ?_⟩
              rw [mkS_list] at hc
              have hi2 := (List.getElem?_eq_some_iff.mp hc).1
              dsimp only [tYes, ite_tt]
              walk_at "rd"
              refine ⟨by rw [List.length_map, List.length_map, List.length_take, sizeLine_eq]; omega, hN _ ⟨Same.mut sD hD, ?_⟩⟩
              rw [List.take_add_one, hc, List.map_append, List.map_append]
              exact upd_same
            have W3 := W.same sD
            rw [mkS_list, List.take_length] at aD
            refine ⟨D, wd.map isDg, rfl, SqL.of aD, ?_⟩
            have h00 : atI wd 0 = some (l.getD j 0) := by
              rw [← hw0]
              exact atI_nat (j := 0) (by rw [List.getD_eq_getElem?_getD, List.getElem?_eq_getElem (by omega)]; rfl)
            have eall : (wd.map isDg).all id = wd.all isDg := by rw [List.all_map]; rfl
            rw [eall]
            walk_at "rd"
            have ap3 := W3.ap
            have af3 := W3.af
            have elen : decide ((16 : Int) < (wd.length : Int)) = decide (16 < runEnd l j - j) := decide_eq_decide.mpr (by omega)
            have elen9 : decide ((9 : Int) < (wd.length : Int)) = decide (9 < runEnd l j - j) := decide_eq_decide.mpr (by omega)
            have r6 : (lgTo false text i || (nm || false)) = (lgTo false text i || nm) := by rw [Bool.or_false]
            have r7 : (lgTo true text i || (fg || false)) = (lgTo true text i || fg) := by rw [Bool.or_false]
            refine if_c (fun g3 => ?_) (fun g3 => ?_)
            · have hst1 := step_key hj1 hc0 hrun hwd hw0 g3
              walk_at "rd"
              refine if_c (fun g4 => ?_) (fun g4 => ?_)
              · have e6 : (lgTo false text i || (nm || decide (16 < runEnd l j - j))) = true := by rw [← Bool.or_assoc, g4]; rfl
                walk_at "rd"
                refine ⟨rfl, fun pk H4 s4 _ hk4 => ?_⟩
                have W4 := W3.same s4
                have ap4 := W4.ap
                walk_at "rd"
                refine if_c (fun g5 => ?_) (fun g5 => ?_)
                · rw [show kIn wd = true from g5] at hst1
                  walk_at "rd"
                  intro q1 hq1
                  have npq := ne_of_none W4.ap hq1
                  have apq : upd H4 q1 (.tup [.int ((i : Int) + 1), .int ((j : Int) + 1), .str ("key" : Str), .str (mkS wd)]) p = _ := (upd_ne npq).trans W4.ap
                  walk_at "rd"
                  have W9 := W4.word hq1 (xs := [.int ((i : Int) + 1), .int ((j : Int) + 1), .str ("key" : Str), .str (mkS wd)]) (ts := [.int ((i : Int) + 1), .int ((j : Int) + 1), .str ("key" : Str), .str (mkS wd)]) (fun S => .cons (.int _) (.cons (.int _) (.cons (.str _) (.cons (.str _) .nil))))
                  refine hN2 (l.length - (runEnd l j)) _ _ (by omega) ⟨runEnd l j, _, _, _, _, vs ++ [.ref q1], us, ?_, ?_, ?_, ?_, rfl, by omega, ?_, ?_, G.step hst1, by simp; omega, by omega⟩
                  rotate_left 4
                  · rw [e6, r7]; rfl
                  · rw [List.append_nil, List.map_append (l₁ := ws), ← List.append_assoc, List.map_append]; exact W9
                · rw [show kIn wd = false from g5] at hst1
                  walk_at "rd"
                  intro q1 hq1
                  have npq := ne_of_none W4.ap hq1
                  have apq : upd H4 q1 (.tup [.int ((i : Int) + 1), .int ((j : Int) + 1), .str ("name" : Str), .str (mkS wd)]) p = _ := (upd_ne npq).trans W4.ap
                  walk_at "rd"
                  have W9 := W4.word hq1 (xs := [.int ((i : Int) + 1), .int ((j : Int) + 1), .str ("name" : Str), .str (mkS wd)]) (ts := [.int ((i : Int) + 1), .int ((j : Int) + 1), .str ("name" : Str), .str (mkS wd)]) (fun S => .cons (.int _) (.cons (.int _) (.cons (.str _) (.cons (.str _) .nil))))
                  refine hN2 (l.length - (runEnd l j)) _ _ (by omega) ⟨runEnd l j, _, _, _, _, vs ++ [.ref q1], us, ?_, ?_, ?_, ?_, rfl, by omega, ?_, ?_, G.step hst1, by simp; omega, by omega⟩
                  rotate_left 4
                  · rw [e6, r7]; rfl
                  · rw [List.append_nil, List.map_append (l₁ := ws), ← List.append_assoc, List.map_append]; exact W9
              · have e6 : (lgTo false text i || (nm || decide (16 < runEnd l j - j))) = decide ((16 : Int) < (wd.length : Int)) := by rw [← Bool.or_assoc, g4, elen]; rfl
                walk_at "rd"
                refine ⟨rfl, fun pk H4 s4 _ hk4 => ?_⟩
                have W4 := W3.same s4
                have ap4 := W4.ap
                walk_at "rd"
                refine if_c (fun g5 => ?_) (fun g5 => ?_)
                · rw [show kIn wd = true from g5] at hst1
                  walk_at "rd"
                  intro q1 hq1
                  have npq := ne_of_none W4.ap hq1
                  have apq : upd H4 q1 (.tup [.int ((i : Int) + 1), .int ((j : Int) + 1), .str ("key" : Str), .str (mkS wd)]) p = _ := (upd_ne npq).trans W4.ap
                  walk_at "rd"
                  have W9 := W4.word hq1 (xs := [.int ((i : Int) + 1), .int ((j : Int) + 1), .str ("key" : Str), .str (mkS wd)]) (ts := [.int ((i : Int) + 1), .int ((j : Int) + 1), .str ("key" : Str), .str (mkS wd)]) (fun S => .cons (.int _) (.cons (.int _) (.cons (.str _) (.cons (.str _) .nil))))
                  refine hN2 (l.length - (runEnd l j)) _ _ (by omega) ⟨runEnd l j, _, _, _, _, vs ++ [.ref q1], us, ?_, ?_, ?_, ?_, rfl, by omega, ?_, ?_, G.step hst1, by simp; omega, by omega⟩
                  rotate_left 4
                  · rw [e6, r7]; rfl
                  · rw [List.append_nil, List.map_append (l₁ := ws), ← List.append_assoc, List.map_append]; exact W9
                · rw [show kIn wd = false from g5] at hst1
                  walk_at "rd"
                  intro q1 hq1
                  have npq := ne_of_none W4.ap hq1
                  have apq : upd H4 q1 (.tup [.int ((i : Int) + 1), .int ((j : Int) + 1), .str ("name" : Str), .str (mkS wd)]) p = _ := (upd_ne npq).trans W4.ap
                  walk_at "rd"
                  have W9 := W4.word hq1 (xs := [.int ((i : Int) + 1), .int ((j : Int) + 1), .str ("name" : Str), .str (mkS wd)]) (ts := [.int ((i : Int) + 1), .int ((j : Int) + 1), .str ("name" : Str), .str (mkS wd)]) (fun S => .cons (.int _) (.cons (.int _) (.cons (.str _) (.cons (.str _) .nil))))
                  refine hN2 (l.length - (runEnd l j)) _ _ (by omega) ⟨runEnd l j, _, _, _, _, vs ++ [.ref q1], us, ?_, ?_, ?_, ?_, rfl, by omega, ?_, ?_, G.step hst1, by simp; omega, by omega⟩
                  rotate_left 4
                  · rw [e6, r7]; rfl
                  · rw [List.append_nil, List.map_append (l₁ := ws), ← List.append_assoc, List.map_append]; exact W9
            · walk_at "rd"
              refine if_c (fun g4 => ?_) (fun g4 => ?_)
              · have e7 : (lgTo true text i || (fg || decide (9 < runEnd l j - j))) = true := by rw [← Bool.or_assoc, g4]; rfl
                walk_at "rd"
                refine if_c (fun g5 => ?_) (fun g5 => ?_)
                · walk_at "rd"
                  refine if_d (fun g6 => ?_) (fun g6 => ?_)
                  · have hst1 := step_num hj1 hc0 hrun hwd hw0 g3 (by rw [g5, decide_eq_true (mkS_inj ((V.str.inj g6).trans zero_str))]; rfl)
                    walk_at "rd"
                    intro q1 hq1
                    have npq := ne_of_none W3.ap hq1
                    have apq : upd H3 q1 (.tup [.int ((i : Int) + 1), .int ((j : Int) + 1), .str ("number" : Str), .str (mkS wd)]) p = _ := (upd_ne npq).trans W3.ap
                    walk_at "rd"
                    have W9 := W3.word hq1 (xs := [.int ((i : Int) + 1), .int ((j : Int) + 1), .str ("number" : Str), .str (mkS wd)]) (ts := [.int ((i : Int) + 1), .int ((j : Int) + 1), .str ("number" : Str), .str (mkS wd)]) (fun S => .cons (.int _) (.cons (.int _) (.cons (.str _) (.cons (.str _) .nil))))
                    refine hN2 (l.length - (runEnd l j)) _ _ (by omega) ⟨runEnd l j, _, _, _, _, vs ++ [.ref q1], us, ?_, ?_, ?_, ?_, rfl, by omega, ?_, ?_, G.step hst1, by simp; omega, by omega⟩
                    rotate_left 4
                    · rw [r6, e7]; rfl
                    · rw [List.append_nil, List.map_append (l₁ := ws), ← List.append_assoc, List.map_append]; exact W9
                  · walk_at "rd"
                    refine if_nd (fun g7 => ?_) (fun g7 => ?_)
                    · have hst1 := step_num hj1 hc0 hrun hwd hw0 g3 (by rw [g5, decide_eq_false (fun z => g7 (is_zero.mpr z))]; simp)
                      walk_at "rd"
                      intro q1 hq1
                      have npq := ne_of_none W3.ap hq1
                      have apq : upd H3 q1 (.tup [.int ((i : Int) + 1), .int ((j : Int) + 1), .str ("number" : Str), .str (mkS wd)]) p = _ := (upd_ne npq).trans W3.ap
                      walk_at "rd"
                      have W9 := W3.word hq1 (xs := [.int ((i : Int) + 1), .int ((j : Int) + 1), .str ("number" : Str), .str (mkS wd)]) (ts := [.int ((i : Int) + 1), .int ((j : Int) + 1), .str ("number" : Str), .str (mkS wd)]) (fun S => .cons (.int _) (.cons (.int _) (.cons (.str _) (.cons (.str _) .nil))))
                      refine hN2 (l.length - (runEnd l j)) _ _ (by omega) ⟨runEnd l j, _, _, _, _, vs ++ [.ref q1], us, ?_, ?_, ?_, ?_, rfl, by omega, ?_, ?_, G.step hst1, by simp; omega, by omega⟩
                      rotate_left 4
                      · rw [r6, e7]; rfl
                      · rw [List.append_nil, List.map_append (l₁ := ws), ← List.append_assoc, List.map_append]; exact W9
                    · have hst1 := step_wrong hj1 hc0 hrun hwd hw0 g3 (by rw [g5, decide_eq_false (fun z => g6 (by rw [z, zero_str])), decide_eq_true (is_zero.mp g7)]; rfl)
                      walk_at "rd"
                      intro q1 hq1
                      have nfq := ne_of_none W3.af hq1
                      have afq : upd H3 q1 (.tup [.str "bad", .int ((i : Int) + 1), .int ((j : Int) + 1), .str ("number" : Str)]) f = _ := (upd_ne nfq).trans W3.af
                      walk_at "rd"
                      have W9 := W3.fault hq1 (xs := [.str "bad", .int ((i : Int) + 1), .int ((j : Int) + 1), .str ("number" : Str)]) (ts := [.str ("bad" : Str), .int ((i : Int) + 1), .int ((j : Int) + 1), .str ("number" : Str)]) (fun S => .cons (.str _) (.cons (.int _) (.cons (.int _) (.cons (.str _) .nil))))
                      refine hN2 (l.length - (runEnd l j)) _ _ (by omega) ⟨runEnd l j, _, _, _, _, vs, us ++ [.ref q1], ?_, ?_, ?_, ?_, rfl, by omega, ?_, ?_, G.step hst1, by omega, by simp; omega⟩
                      rotate_left 4
                      · rw [r6, e7]; rfl
                      · rw [List.append_nil, List.map_append (l₁ := fs), ← List.append_assoc, List.map_append (f := ftP)]; exact W9
                · have hst1 := step_wrong hj1 hc0 hrun hwd hw0 g3 (by rw [g5]; rfl)
                  walk_at "rd"
                  intro q1 hq1
                  have nfq := ne_of_none W3.af hq1
                  have afq : upd H3 q1 (.tup [.str "bad", .int ((i : Int) + 1), .int ((j : Int) + 1), .str ("number" : Str)]) f = _ := (upd_ne nfq).trans W3.af
                  walk_at "rd"
                  have W9 := W3.fault hq1 (xs := [.str "bad", .int ((i : Int) + 1), .int ((j : Int) + 1), .str ("number" : Str)]) (ts := [.str ("bad" : Str), .int ((i : Int) + 1), .int ((j : Int) + 1), .str ("number" : Str)]) (fun S => .cons (.str _) (.cons (.int _) (.cons (.int _) (.cons (.str _) .nil))))
                  refine hN2 (l.length - (runEnd l j)) _ _ (by omega) ⟨runEnd l j, _, _, _, _, vs, us ++ [.ref q1], ?_, ?_, ?_, ?_, rfl, by omega, ?_, ?_, G.step hst1, by omega, by simp; omega⟩
                  rotate_left 4
                  · rw [r6, e7]; rfl
                  · rw [List.append_nil, List.map_append (l₁ := fs), ← List.append_assoc, List.map_append (f := ftP)]; exact W9
              · have e7 : (lgTo true text i || (fg || decide (9 < runEnd l j - j))) = decide ((9 : Int) < (wd.length : Int)) := by rw [← Bool.or_assoc, g4, elen9]; rfl
                walk_at "rd"
                refine if_c (fun g5 => ?_) (fun g5 => ?_)
                · walk_at "rd"
                  refine if_d (fun g6 => ?_) (fun g6 => ?_)
                  · have hst1 := step_num hj1 hc0 hrun hwd hw0 g3 (by rw [g5, decide_eq_true (mkS_inj ((V.str.inj g6).trans zero_str))]; rfl)
                    walk_at "rd"
                    intro q1 hq1
                    have npq := ne_of_none W3.ap hq1
                    have apq : upd H3 q1 (.tup [.int ((i : Int) + 1), .int ((j : Int) + 1), .str ("number" : Str), .str (mkS wd)]) p = _ := (upd_ne npq).trans W3.ap
                    walk_at "rd"
                    have W9 := W3.word hq1 (xs := [.int ((i : Int) + 1), .int ((j : Int) + 1), .str ("number" : Str), .str (mkS wd)]) (ts := [.int ((i : Int) + 1), .int ((j : Int) + 1), .str ("number" : Str), .str (mkS wd)]) (fun S => .cons (.int _) (.cons (.int _) (.cons (.str _) (.cons (.str _) .nil))))
                    refine hN2 (l.length - (runEnd l j)) _ _ (by omega) ⟨runEnd l j, _, _, _, _, vs ++ [.ref q1], us, ?_, ?_, ?_, ?_, rfl, by omega, ?_, ?_, G.step hst1, by simp; omega, by omega⟩
                    rotate_left 4
                    · rw [r6, e7]; rfl
                    · rw [List.append_nil, List.map_append (l₁ := ws), ← List.append_assoc, List.map_append]; exact W9
                  · walk_at "rd"
                    refine if_nd (fun g7 => ?_) (fun g7 => ?_)
                    · have hst1 := step_num hj1 hc0 hrun hwd hw0 g3 (by rw [g5, decide_eq_false (fun z => g7 (is_zero.mpr z))]; simp)
                      walk_at "rd"
                      intro q1 hq1
                      have npq := ne_of_none W3.ap hq1
                      have apq : upd H3 q1 (.tup [.int ((i : Int) + 1), .int ((j : Int) + 1), .str ("number" : Str), .str (mkS wd)]) p = _ := (upd_ne npq).trans W3.ap
                      walk_at "rd"
                      have W9 := W3.word hq1 (xs := [.int ((i : Int) + 1), .int ((j : Int) + 1), .str ("number" : Str), .str (mkS wd)]) (ts := [.int ((i : Int) + 1), .int ((j : Int) + 1), .str ("number" : Str), .str (mkS wd)]) (fun S => .cons (.int _) (.cons (.int _) (.cons (.str _) (.cons (.str _) .nil))))
                      refine hN2 (l.length - (runEnd l j)) _ _ (by omega) ⟨runEnd l j, _, _, _, _, vs ++ [.ref q1], us, ?_, ?_, ?_, ?_, rfl, by omega, ?_, ?_, G.step hst1, by simp; omega, by omega⟩
                      rotate_left 4
                      · rw [r6, e7]; rfl
                      · rw [List.append_nil, List.map_append (l₁ := ws), ← List.append_assoc, List.map_append]; exact W9
                    · have hst1 := step_wrong hj1 hc0 hrun hwd hw0 g3 (by rw [g5, decide_eq_false (fun z => g6 (by rw [z, zero_str])), decide_eq_true (is_zero.mp g7)]; rfl)
                      walk_at "rd"
                      intro q1 hq1
                      have nfq := ne_of_none W3.af hq1
                      have afq : upd H3 q1 (.tup [.str "bad", .int ((i : Int) + 1), .int ((j : Int) + 1), .str ("number" : Str)]) f = _ := (upd_ne nfq).trans W3.af
                      walk_at "rd"
                      have W9 := W3.fault hq1 (xs := [.str "bad", .int ((i : Int) + 1), .int ((j : Int) + 1), .str ("number" : Str)]) (ts := [.str ("bad" : Str), .int ((i : Int) + 1), .int ((j : Int) + 1), .str ("number" : Str)]) (fun S => .cons (.str _) (.cons (.int _) (.cons (.int _) (.cons (.str _) .nil))))
                      refine hN2 (l.length - (runEnd l j)) _ _ (by omega) ⟨runEnd l j, _, _, _, _, vs, us ++ [.ref q1], ?_, ?_, ?_, ?_, rfl, by omega, ?_, ?_, G.step hst1, by omega, by simp; omega⟩
                      rotate_left 4
                      · rw [r6, e7]; rfl
                      · rw [List.append_nil, List.map_append (l₁ := fs), ← List.append_assoc, List.map_append (f := ftP)]; exact W9
                · have hst1 := step_wrong hj1 hc0 hrun hwd hw0 g3 (by rw [g5]; rfl)
                  walk_at "rd"
                  intro q1 hq1
                  have nfq := ne_of_none W3.af hq1
                  have afq : upd H3 q1 (.tup [.str "bad", .int ((i : Int) + 1), .int ((j : Int) + 1), .str ("number" : Str)]) f = _ := (upd_ne nfq).trans W3.af
                  walk_at "rd"
                  have W9 := W3.fault hq1 (xs := [.str "bad", .int ((i : Int) + 1), .int ((j : Int) + 1), .str ("number" : Str)]) (ts := [.str ("bad" : Str), .int ((i : Int) + 1), .int ((j : Int) + 1), .str ("number" : Str)]) (fun S => .cons (.str _) (.cons (.int _) (.cons (.int _) (.cons (.str _) .nil))))
                  refine hN2 (l.length - (runEnd l j)) _ _ (by omega) ⟨runEnd l j, _, _, _, _, vs, us ++ [.ref q1], ?_, ?_, ?_, ?_, rfl, by omega, ?_, ?_, G.step hst1, by omega, by simp; omega⟩
                  rotate_left 4
                  · rw [r6, e7]; rfl
                  · rw [List.append_nil, List.map_append (l₁ := fs), ← List.append_assoc, List.map_append (f := ftP)]; exact W9
          | false =>
            have he0 : runEnd l j = j := runEnd_stop (.inr hrun)
            have hw0 : wordAt l j (runEnd l j) = [] := by unfold wordAt; rw [he0]; simp
            have r6 : (lgTo false text i || (nm || false)) = (lgTo false text i || nm) := by rw [Bool.or_false]
            have r7 : (lgTo true text i || (fg || false)) = (lgTo true text i || fg) := by rw [Bool.or_false]
            have ap2 := W.ap
            have af2 := W.af
            walk_at "rd"
            rw [cut_some]
            rw [show List.take (runEnd l j - j) (List.drop j l) = wordAt l j (runEnd l j) from rfl]
            rw [hw0, he0]
            refine ⟨(show TruV K (.str (mkS [])) H2 false from ⟨by rw [sizeLine_eq, mkS_len]; decide, by rw [mkS_len]; rfl⟩), ?_⟩
            walk_at "rd"
            rw [cut_two]
            refine if_d (fun h4 => ?_) (fun h4 => ?_)
            · have h5 := is_arrow.mp h4
              have h6 := arrow_lt h5
              walk_at "rd"
              intro q1 hq1
              have npq := ne_of_none W.ap hq1
              have apq : upd H2 q1 (.tup [.int ((i : Int) + 1), .int ((j : Int) + 1), .str ("sign" : Str), .str ("->" : Str)]) p = _ := (upd_ne npq).trans W.ap
              walk_at "rd"
              have W9 := W.word hq1 (xs := [.int ((i : Int) + 1), .int ((j : Int) + 1), .str ("sign" : Str), .str ("->" : Str)]) (ts := [.int ((i : Int) + 1), .int ((j : Int) + 1), .str ("sign" : Str), .str ("->" : Str)]) (fun S => .cons (.int _) (.cons (.int _) (.cons (.str _) (.cons (.str _) .nil))))
              refine hN2 (l.length - (j + 2)) _ _ (by omega) ⟨j + 2, _, _, _, _, vs ++ [.ref q1], us, ?_, ?_, ?_, ?_, rfl, by omega, ?_, ?_, G.step (step_arrow hj1 hc hrun h5), by simp; omega, by omega⟩
              rotate_left 4
              · rw [r6, r7]; rfl
              · rw [List.append_nil, List.map_append (l₁ := ws), ← List.append_assoc, List.map_append]; exact W9
            · have h5 : ¬ (l.drop j).take 2 = [45, 62] := fun z => h4 (is_arrow.mpr z)
              walk_at "rd"
              intro q0 hq0
              have W5 := W.new (o := HO.tup signsV) hq0
              have ap5 := W5.ap
              have af5 := W5.af
              walk_at "rd"
              refine if_c (fun h6 => ?_) (fun h6 => ?_)
              · walk_at "rd"
                intro q1 hq1
                have npq := ne_of_none W5.ap hq1
                have apq : upd (upd H2 q0 (HO.tup signsV)) q1 (.tup [.int ((i : Int) + 1), .int ((j : Int) + 1), .str ("sign" : Str), .str (⟨#[l.getD j 0]⟩ : Str)]) p = _ := (upd_ne npq).trans W5.ap
                walk_at "rd"
                have W9 := W5.word hq1 (xs := [.int ((i : Int) + 1), .int ((j : Int) + 1), .str ("sign" : Str), .str (⟨#[l.getD j 0]⟩ : Str)]) (ts := [.int ((i : Int) + 1), .int ((j : Int) + 1), .str ("sign" : Str), .str (⟨#[l.getD j 0]⟩ : Str)]) (fun S => .cons (.int _) (.cons (.int _) (.cons (.str _) (.cons (.str _) .nil))))
                refine hN2 (l.length - (j + 1)) _ _ (by omega) ⟨j + 1, _, _, _, _, vs ++ [.ref q1], us, ?_, ?_, ?_, ?_, rfl, by omega, ?_, ?_, G.step (step_sg hj1 hc hrun h5 h6), by simp; omega, by omega⟩
                rotate_left 4
                · rw [r6, r7]; rfl
                · rw [List.append_nil, List.map_append (l₁ := ws), ← List.append_assoc, List.map_append]; exact W9
              · walk_at "rd"
                refine if_nd (fun h7 => ?_) (fun h7 => ?_)
                · walk_at "rd"
                  intro q1 hq1
                  have nfq := ne_of_none W5.af hq1
                  have afq : upd (upd H2 q0 (HO.tup signsV)) q1 (.tup [.str "bad", .int ((i : Int) + 1), .int ((j : Int) + 1), .str ("sign" : Str)]) f = _ := (upd_ne nfq).trans W5.af
                  walk_at "rd"
                  have W9 := W5.fault hq1 (xs := [.str "bad", .int ((i : Int) + 1), .int ((j : Int) + 1), .str ("sign" : Str)]) (ts := [.str ("bad" : Str), .int ((i : Int) + 1), .int ((j : Int) + 1), .str ("sign" : Str)]) (fun S => .cons (.str _) (.cons (.int _) (.cons (.int _) (.cons (.str _) .nil))))
                  refine hN2 (l.length - (j + 1)) _ _ (by omega) ⟨j + 1, _, _, _, _, vs, us ++ [.ref q1], ?_, ?_, ?_, ?_, rfl, by omega, ?_, ?_, G.step (step_odd hj1 hc hrun h5 h6 (fun z => h7 (is_blank.mpr z))), by omega, by simp; omega⟩
                  rotate_left 4
                  · rw [r6, r7]; rfl
                  · rw [List.append_nil, List.map_append (l₁ := fs), ← List.append_assoc, List.map_append (f := ftP)]; exact W9
                · walk_at "rd"
                  refine hN2 (l.length - (j + 1)) _ _ (by omega) ⟨j + 1, _, _, _, _, vs, us, ?_, ?_, ?_, ?_, rfl, by omega, ?_, ?_, G.step (step_blank hj1 hc hrun h5 h6 (fun z => z (is_blank.mp h7))), by omega, by omega⟩
                  rotate_left 4
                  · rw [r6, r7]; rfl
                  · rw [List.append_nil, List.append_nil]; exact W5
        · walk_at "rd"
          rcases fin with h3 | h3
          · exact absurd (is_hash.mp h2) h3.2
          · exact done h3
      · walk_at "rd"
        rcases fin with h3 | h3
        · exact absurd h3.1 (by omega)
        · exact done h3
    · rintro σ H' ⟨vs, us, x9, x10, x11, x12, x13, x14, rfl, W, hvl, hul⟩
      have eL : ((linesOf text).map fun l => V.str (mkS l)).length = (linesOf text).length := List.length_map _
      rw [eL] at W hvl hul
      have hsig : text.length ≤ 20000 := by omega
      have ef := fsTo_all text
      obtain ⟨S, X, sp, sf, dW, dF⟩ := W.ext eB.symm hS haH
      walk_at "rd"
      rw [eL, lgTo_all]
      refine if_c (fun h1 => ?_) (fun h1 => ?_)
      · have em : manyOf text = some ("name" : Str) := by unfold manyOf; rw [if_neg (by omega), if_pos h1]
        walk_at "rd"
        intro b hb
        refine k _ _ _ (X.new hb) ?_
        unfold dueOf; rw [em]
        exact .tup (SqT.of upd_same) (.cons (.str _) (.cons (.str _) .nil))
      walk_at "rd"
      rw [lgTo_all]
      refine if_c (fun h2 => ?_) (fun h2 => ?_)
      · have em : manyOf text = some ("figures" : Str) := by unfold manyOf; rw [if_neg (by omega), if_neg (by rw [h1]; decide), if_pos h2]
        walk_at "rd"
        intro b hb
        refine k _ _ _ (X.new hb) ?_
        unfold dueOf; rw [em]
        exact .tup (SqT.of upd_same) (.cons (.str _) (.cons (.str _) .nil))
      have em : manyOf text = none := by unfold manyOf; rw [if_neg (by omega), if_neg (by rw [h1]; decide), if_neg (by rw [h2]; decide)]
      have hW := DpAll.length dW
      have hF := DpAll.length dF
      rw [List.length_map] at hW hF
      cases eb : firstBad text with
      | some x =>
        rw [eb] at ef
        cases us with
        | nil => rw [List.length_nil] at hF; rw [List.length_eq_zero_iff.mp hF.symm] at ef; cases ef
        | cons u us =>
        cases efs : fsTo text (linesOf text).length with
        | nil => rw [efs] at ef; cases ef
        | cons y ys =>
        rw [efs] at ef dF
        obtain rfl := Option.some.inj ef
        cases dF with
        | cons dy dys =>
        have hq : SqL K H' f (u :: us) := SqL.of W.af
        walk_at "rd"
        refine ⟨(show TruV K (.ref f) H' true from .inl ⟨_, hq, rfl⟩), ?_⟩
        walk_at "rd"
        refine ⟨atI_nat (j := 0) (v := u) rfl, k _ S _ X ?_⟩
        unfold dueOf; rw [em, eb]
        exact dy
      | none =>
        rw [eb] at ef
        cases us with
        | cons u us =>
          rw [List.head?_eq_none_iff.mp ef] at hF; cases hF
        | nil =>
        have hq : SqL K H' f [] := SqL.of W.af
        walk_at "rd"
        refine ⟨(show TruV K (.ref f) H' false from .inl ⟨_, hq, rfl⟩), ?_⟩
        walk_at "rd"
        refine k _ _ _ (X.freeze W.hp sp W.ap) ?_
        unfold dueOf; rw [em, eb]
        rw [wsTo_all eb] at dW
        exact .lst (SqL.of upd_same) (DpAll.mono (Same.upd sp) dW)

/-- what the law's questions on the errors need beyond Txt -/
structure Txt2 (K : PySem.W.Frag) (mg : Str → Option Value) (T : Txt K mg) : Prop where
  xt : PySem.W.exmOne K (.ref T.a_TooMany) (.ref T.a_LeftError) = some true
  xb : PySem.W.exmOne K (.ref T.a_BadText) (.ref T.a_LeftError) = some true
  tv : PySem.W.kitOne K (.ref T.a_TooMany) (.type "ValueError") = some true
  tt : PySem.W.kitOne K (.ref T.a_TooMany) (.ref T.a_TooMany) = some true
  tb : PySem.W.kitOne K (.ref T.a_TooMany) (.ref T.a_BadText) = some false
  bv : PySem.W.kitOne K (.ref T.a_BadText) (.type "ValueError") = some true
  bt : PySem.W.kitOne K (.ref T.a_BadText) (.ref T.a_TooMany) = some false
  bb : PySem.W.kitOne K (.ref T.a_BadText) (.ref T.a_BadText) = some true
/-- an answer with its pieces in S', the list itself ours -/
def Ans (K : PySem.W.Frag) (H S' H' : Hp) (v : V) (d : PyData) : Prop :=
  (∃ ts q vs, d = .tuple ts ∧ v = .ref q ∧ S' q = some (.tup vs) ∧ DpAll K S' vs ts) ∨
  (∃ ds p xs, d = .list ds ∧ v = .ref p ∧ H p = none ∧ S' p = none ∧ H' p = some (.lst xs) ∧ DpAll K S' xs ds ∧ xs.length ≤ 10000000)
def sp_law_asked (K : PySem.W.Frag) : Sp := fun vs H Q _ => ∃ (u : Str) (text : List Nat) (S : Hp), vs = [.str u, .str (mkS text)] ∧ u.length ≤ 1000 ∧ text.length ≤ 3000 ∧ Same S H ∧
  ∀ v S' H', Ext S H S' H' → Ans K H S' H' v (dueOf text) → Q v H'
theorem lk_hd {k : Str} {v : V} {l : List (Str × V)} : List.lookup k ((k, v) :: l) = some v := by simp [List.lookup]
theorem lk_tl {k k' : Str} {v : V} {l : List (Str × V)} (h : (k == k') = false) : List.lookup k ((k', v) :: l) = List.lookup k l := by simp [List.lookup, h]
theorem Ext.sameH {S H H' : Hp} (h : Same S H) (h2 : Same H H') : Ext S H S H' := ⟨h2, Same.refl _, h.trans h2, fun _ _ => rfl⟩
noncomputable def dv__law_asked (T : Txt K mg) {cdv : Value} {A : Around} {outer : List Env} {s : Shared} {H : Hp} {E : XK} (hr : Room 5 (A.deeper (PyProof.Rows.envOfC "_law_asked" (defScope s__law_asked) s.heap.objs.size T.f__law_asked cdv))) :
  { t : TS // PSs (cxOf (CX0) P w K mg base N__law_asked "_law_asked" (defScope s__law_asked) T.f__law_asked cdv A outer s H E).nox (defBody s__law_asked) t } := by
  have hu := hu_of hr
  have hu65 := hu65_of hr
  exact ⟨_, (pss_one (ps_try_as (i := 2) rfl rfl sc__law_asked.nd rfl rfl ⟨rfl, by decide, .inl T.m_LeftError⟩ takes0 (fun W pn xe tk po => (pss_one (ps_ret (pe_callS (ok_token_rows T) (hr.mono (by decide)) rfl T.m_token_rows T.F_token_rows.kp T.B_token_rows (fun σ => passAt tk σ) (pa_cons (pv 0) (pa_cons (pv 1) pa_nil)))))) (fun a oe cls d pn hz hf => (pss_cons (ps_if (PW.pt (pw_or (pt_not (pt_val (pe_callB (call_isX hz hf) (by rfl) T.b_isinstance (by decide +kernel) (pa_cons (pv 2) (pa_cons (pe_gty (z := "ValueError") rfl T.b_ValueError (by decide +kernel)) pa_nil))))) (pw_or1 (PW.pt (pw_and (pt_val (pe_callB (call_isX hz hf) (by rfl) T.b_isinstance (by decide +kernel) (pa_cons (pv 2) (pa_cons (pe_gref rfl T.m_TooMany) pa_nil)))) (pw_and1 (pt_val (pe_callB (call_isX hz hf) (by rfl) T.b_isinstance (by decide +kernel) (pa_cons (pv 2) (pa_cons (pe_gref rfl T.m_BadText) pa_nil))))))))))
 (pss_one (ps_ret (pe_tup (pa_cons pe_str pa_nil))))
 pss_nil)
 (pss_cons (ps_if (pt_val (pe_callB (call_isX hz hf) (by rfl) T.b_isinstance (by decide +kernel) (pa_cons (pv 2) (pa_cons (pe_gref rfl T.m_TooMany) pa_nil))))
 (pss_one (ps_ret (pe_tup (pa_cons pe_str (pa_cons (pe_xfX hz hf (pv 2)) pa_nil)))))
 pss_nil)
 (pss_cons (ps_if (pt_val (pe_callB (call_isX hz hf) (by rfl) T.b_isinstance (by decide +kernel) (pa_cons (pv 2) (pa_cons (pe_gref rfl T.m_BadText) pa_nil))))
 (pss_one (ps_ret (pe_ifExp (pt_cmpR op_eq (pe_xfX hz hf (pv 2)) (pv 0) (nomark _)) (pe_tup (pa_cons pe_str (pa_cons (pe_xfX hz hf (pv 2)) (pa_cons (pe_xfX hz hf (pv 2)) (pa_cons (pe_xfX hz hf (pv 2)) pa_nil))))) (pe_tup (pa_cons pe_str pa_nil)))))
 pss_nil)
 (pss_one (ps_ret (pe_tup (pa_cons pe_str pa_nil))))))))))⟩

theorem ok__law_asked (T : Txt K mg) (T2 : Txt2 K mg T) : FnOk P w K mg base CX0 6 T.f__law_asked T.fd__law_asked ["name", "text"] (sp_law_asked K) := by
  refine T.F__law_asked.ok sc__law_asked (fun vs H Q E h => ?_) (fun cdv A outer s H vs Q E hr h => ?_)
  · obtain ⟨_, _, _, rfl, _⟩ := h
    rfl
  · obtain ⟨u, text, S, rfl, hu1, hl, hS, k⟩ := h
    refine ⟨_, (dv__law_asked T hr).2, ?_⟩
    dsimp only [dv__law_asked]
    walk_at "rd"
    refine ⟨u, text, S, rfl, hu1, hl, hS, ?_, ?_, ?_⟩
    · intro what hw d H1 hs hd hd1
      refine ⟨true, T2.xt, fun _ a ha => ?_, fun z => nomatch z⟩
      have Z := T.ec_TooMany
      have k1 := T2.tv
      have k2 := T2.tt
      have k3 := T2.tb
      have f1 := T.nf_TooMany_what
      have lk : List.lookup ("what" : Str) [(("what" : Str), V.str what)] = some (.str what) := lk_hd
      walk_at "rd"
      refine if_f rfl ?_
      walk_at "rd"
      intro q hq
      refine k _ _ _ ((Ext.sameH hS hs).new hq) (.inl ⟨_, q, _, ?_, rfl, upd_same, .cons (.str _) (.cons (.str _) .nil)⟩)
      unfold dueOf; rw [hw]
    · intro hm x hx d H1 hs hd hd1
      refine ⟨true, T2.xb, fun _ a ha => ?_, fun z => nomatch z⟩
      have Z := T.ec_BadText
      have k1 := T2.bv
      have k2 := T2.bt
      have k3 := T2.bb
      have f1 := T.nf_BadText_what
      have f2 := T.nf_BadText_unit
      have f3 := T.nf_BadText_line
      have f4 := T.nf_BadText_column
      have n1 : (("column" : Str) == "what") = false := by decide +kernel
      have n2 : (("line" : Str) == "what") = false := by decide +kernel
      have n3 : (("line" : Str) == "column") = false := by decide +kernel
      have n4 : (("unit" : Str) == "what") = false := by decide +kernel
      have n5 : (("unit" : Str) == "column") = false := by decide +kernel
      have n6 : (("unit" : Str) == "line") = false := by decide +kernel
      have l1 : List.lookup ("what" : Str) (btFs u (x.1 : Nat) ((x.2.1 : Int) + 1) x.2.2.2) = some (.str x.2.2.2) := lk_hd
      have l2 : List.lookup ("column" : Str) (btFs u (x.1 : Nat) ((x.2.1 : Int) + 1) x.2.2.2) = some (.int ((x.2.1 : Int) + 1)) := (lk_tl n1).trans lk_hd
      have l3 : List.lookup ("line" : Str) (btFs u (x.1 : Nat) ((x.2.1 : Int) + 1) x.2.2.2) = some (.int (x.1 : Nat)) := (lk_tl n2).trans ((lk_tl n3).trans lk_hd)
      have l4 : List.lookup ("unit" : Str) (btFs u (x.1 : Nat) ((x.2.1 : Int) + 1) x.2.2.2) = some (.str u) := (lk_tl n4).trans ((lk_tl n5).trans ((lk_tl n6).trans lk_hd))
      walk_at "rd"
      refine if_f rfl ?_
      walk_at "rd"
      refine if_t (decide_eq_true rfl) ?_
      walk_at "rd"
      intro q hq
      refine k _ _ _ ((Ext.sameH hS hs).new hq) (.inl ⟨_, q, _, ?_, rfl, upd_same, .cons (.str _) (.cons (.int _) (.cons (.int _) (.cons (.str _) .nil)))⟩)
      unfold dueOf; rw [hm, hx]; rfl
    · intro hm hf p xs S1 H1 X hp np hat hD hlen
      refine k _ S1 H1 X (.inr ⟨_, p, xs, ?_, rfl, hp, np, hat, hD, hlen⟩)
      unfold dueOf; rw [hm, hf]

/-- how deep a tree is -/
def Lev : Nat → PyData → Prop
  | 0, d => (∃ i, d = .int i) ∨ ∃ z, d = .str z
  | n + 1, d => ∃ ds, (d = .tuple ds ∨ d = .list ds) ∧ ds.length ≤ 10000000 ∧ ∀ e ∈ ds, Lev n e
theorem ty_tup {H : Hp} {p : Addr} {xs : List V} (h : SqT K H p xs) : TyX K H (.ref p) (.type "tuple") := by
  rcases h with (h | ⟨_, h⟩) | ⟨o, its, n, h1, h2, _⟩
  · exact .base (.tup h)
  · exact .fTuple h
  · exact .kTuple h1 h2
theorem ty_lst {H : Hp} {p : Addr} {xs : List V} (h : SqL K H p xs) : TyX K H (.ref p) (.type "list") := by
  rcases h with (h | ⟨_, h⟩) | ⟨o, its, n, h1, h2, _⟩
  · exact .base (.lst h)
  · exact .base (.frz h)
  · exact .kList h1 h2
theorem isi_by {H : Hp} {x : V} {t z : String} {b : Bool} {Q : VK} (ty : TyX K H x (.type t)) (hk : kitB t z = some b) (q : Q (.bl b) H) : rIsi K [x, .ty z] H Q := ⟨x, .ty z, .type t, .type z, b, rfl, .ty z, ty, kit_ty hk, q⟩
theorem rIx_l {H : Hp} {p : Addr} {xs : List V} {i : Int} {v : V} {Q : VK} (h : SqL K H p xs) (hi : atI xs i = some v) (q : Q v H) : rIx K (.ref p) (.int i) H Q := .inl ⟨p, xs, i, v, rfl, rfl, h, hi, q⟩
theorem rIx_t {H : Hp} {p : Addr} {xs : List V} {i : Int} {v : V} {Q : VK} (h : SqT K H p xs) (hi : atI xs i = some v) (q : Q v H) : rIx K (.ref p) (.int i) H Q := .inr (.inl ⟨p, xs, i, v, rfl, rfl, h, hi, q⟩)
def sp_law_same (K : PySem.W.Frag) : Nat → Sp
  | 0 => fun _ _ _ _ => False
  | N + 1 => fun vs H Q _ => ∃ (v u : V) (d : PyData) (n : Nat), vs = [v, u] ∧ Dp K H v d ∧ Dp K H u d ∧ n ≤ N ∧ Lev n d ∧ ∀ H', Same H H' → Q (.bl true) H'
theorem ix_seqK {X : Cx} (h : X.K = K) : IxR X (rIx K) := h ▸ ix_seq
noncomputable def dv__law_same (T : Txt K mg) (hdict : mg "dict" = none) {n : Nat} {sp : Sp} (ih : FnOk P w K mg base CX0 n T.f__law_same T.fd__law_same ["answer", "due"] sp) {cdv : Value} {A : Around} {outer : List Env} {s : Shared} {H : Hp} {E : XK} (hr : Room n (A.deeper (PyProof.Rows.envOfC "_law_same" (defScope s__law_same) s.heap.objs.size T.f__law_same cdv))) :
  { t : TS // PSs (cxOf (CX0) P w K mg base N__law_same "_law_same" (defScope s__law_same) T.f__law_same cdv A outer s H E).nox (defBody s__law_same) t } := by
  have hu := hu_of hr
  have hu65 := hu65_of hr
  exact ⟨_, (pss_cons (ps_if (PW.pt (pw_or (pt_cmp (pc_isN (pv 1))) (pw_or1 (pt_cmp (pc_isN (pv 0))))))
 (pss_one (ps_ret (pe_and (pe_cmp (pc_isN (pv 1))) (pe_one (pe_cmp (pc_isN (pv 0)))))))
 pss_nil)
 (pss_cons (ps_if (PW.pt (pw_or (pt_val (pe_callB call_isi (by rfl) T.b_isinstance (by decide +kernel) (pa_cons (pv 1) (pa_cons (pe_gty (z := "bool") rfl T.b_bool (by decide +kernel)) pa_nil)))) (pw_or1 (pt_val (pe_callB call_isi (by rfl) T.b_isinstance (by decide +kernel) (pa_cons (pv 0) (pa_cons (pe_gty (z := "bool") rfl T.b_bool (by decide +kernel)) pa_nil)))))))
 (pss_one (ps_ret (pe_and (pe_callB call_isi (by rfl) T.b_isinstance (by decide +kernel) (pa_cons (pv 1) (pa_cons (pe_gty (z := "bool") rfl T.b_bool (by decide +kernel)) pa_nil))) (pe_and (pe_callB call_isi (by rfl) T.b_isinstance (by decide +kernel) (pa_cons (pv 0) (pa_cons (pe_gty (z := "bool") rfl T.b_bool (by decide +kernel)) pa_nil))) (pe_one (pe_cmpR op_eq (pv 0) (pv 1) (nomark _)))))))
 pss_nil)
 (pss_cons (ps_if (pt_val (pe_callB call_isi (by rfl) T.b_isinstance (by decide +kernel) (pa_cons (pv 1) (pa_cons (pe_gty (z := "int") rfl T.b_int (by decide +kernel)) pa_nil))))
 (pss_one (ps_ret (pe_and (pe_callB call_isi (by rfl) T.b_isinstance (by decide +kernel) (pa_cons (pv 0) (pa_cons (pe_gty (z := "int") rfl T.b_int (by decide +kernel)) pa_nil))) (pe_one (pe_cmpR op_eq (pv 0) (pv 1) (nomark _))))))
 pss_nil)
 (pss_cons (ps_if (pt_val (pe_callB call_isi (by rfl) T.b_isinstance (by decide +kernel) (pa_cons (pv 1) (pa_cons (pe_gty (z := "str") rfl T.b_str (by decide +kernel)) pa_nil))))
 (pss_one (ps_ret (pe_and (pe_callB call_isi (by rfl) T.b_isinstance (by decide +kernel) (pa_cons (pv 0) (pa_cons (pe_gty (z := "str") rfl T.b_str (by decide +kernel)) pa_nil))) (pe_one (pe_cmpR op_eq (pv 0) (pv 1) (nomark _))))))
 pss_nil)
 (pss_cons (ps_if (pt_val (pe_callB call_isi (by rfl) T.b_isinstance (by decide +kernel) (pa_cons (pv 1) (pa_cons (pe_gty (z := "dict") rfl hdict (by decide +kernel)) pa_nil))))
 pss_never
 pss_nil)
 (pss_cons (ps_if (PW.pt (pw_and (pt_val (pe_callB call_isi (by rfl) T.b_isinstance (by decide +kernel) (pa_cons (pv 1) (pa_cons (pe_gty (z := "tuple") rfl T.b_tuple (by decide +kernel)) pa_nil)))) (pw_and1 (pt_not (pt_val (pe_callB call_isi (by rfl) T.b_isinstance (by decide +kernel) (pa_cons (pv 0) (pa_cons (pe_gty (z := "tuple") rfl T.b_tuple (by decide +kernel)) pa_nil))))))))
 (pss_one (ps_ret pe_bl))
 pss_nil)
 (pss_cons (ps_if (PW.pt (pw_and (pt_val (pe_callB call_isi (by rfl) T.b_isinstance (by decide +kernel) (pa_cons (pv 1) (pa_cons (pe_gty (z := "list") rfl T.b_list (by decide +kernel)) pa_nil)))) (pw_and1 (pt_not (pt_val (pe_callB call_isi (by rfl) T.b_isinstance (by decide +kernel) (pa_cons (pv 0) (pa_cons (pe_gty (z := "list") rfl T.b_list (by decide +kernel)) pa_nil))))))))
 (pss_one (ps_ret pe_bl))
 pss_nil)
 (pss_one (ps_ret (pe_and (pe_cmpR op_eq (pe_callB call_len_seq (by rfl) T.b_len PySem.boot_len (pa_cons (pv 0) pa_nil)) (pe_callB call_len_seq (by rfl) T.b_len PySem.boot_len (pa_cons (pv 1) pa_nil)) (nomark _)) (pe_one (pe_callB (cr_all rfl) (by rfl) T.b_all (by decide +kernel) (pa_cons (pe_lc (own := [("at", 3)]) (by rfl) sc__law_same.nd (pi_range1 (by rfl) T.b_range (pa_cons (pe_callB call_len_seq (by rfl) T.b_len PySem.boot_len (pa_cons (pv 1) pa_nil)) pa_nil)) (blkOk_by (own := [("at", 3)]) (N := N__law_same) (sc := defScope s__law_same) (by decide +kernel)) (fun _ _ _ _ _ => (pg_name (i := 3) sc__law_same.nd rfl (by first | exact Or.inl rfl | exact Or.inr rfl))) (fun _ _ _ _ _ => pts_nil) (fun _ _ _ _ _ => (pe_call ih hr rfl T.m__law_same T.F__law_same.kp T.B__law_same .nil pass0 (pa_cons (pe_ix (ix_seqK (K := K) rfl) (pv 0) (pv 3) (fun _ _ => rfl)) (pa_cons (pe_ix (ix_seqK (K := K) rfl) (pv 1) (pv 3) (fun _ _ => rfl)) pa_nil))))) pa_nil)))))))))))))⟩

theorem if_rn {p : Addr} {A B : Prop} (h : B) : if decide (V.ref p = V.non) = true then A else B := if_f (decide_eq_false fun z => nomatch z) h
theorem if_in {p : Int} {A B : Prop} (h : B) : if decide (V.int p = V.non) = true then A else B := if_f (decide_eq_false fun z => nomatch z) h
theorem if_sn {p : Str} {A B : Prop} (h : B) : if decide (V.str p = V.non) = true then A else B := if_f (decide_eq_false fun z => nomatch z) h
theorem kb_ib : kitB "int" "bool" = some false := by decide +kernel
theorem kb_ii : kitB "int" "int" = some true := by decide +kernel
theorem kb_sb : kitB "str" "bool" = some false := by decide +kernel
theorem kb_si : kitB "str" "int" = some false := by decide +kernel
theorem kb_ss : kitB "str" "str" = some true := by decide +kernel
theorem kb_tb : kitB "tuple" "bool" = some false := by decide +kernel
theorem kb_ti : kitB "tuple" "int" = some false := by decide +kernel
theorem kb_ts : kitB "tuple" "str" = some false := by decide +kernel
theorem kb_td : kitB "tuple" "dict" = some false := by decide +kernel
theorem kb_tt : kitB "tuple" "tuple" = some true := by decide +kernel
theorem kb_tl : kitB "tuple" "list" = some false := by decide +kernel
theorem kb_lb : kitB "list" "bool" = some false := by decide +kernel
theorem kb_li : kitB "list" "int" = some false := by decide +kernel
theorem kb_ls : kitB "list" "str" = some false := by decide +kernel
theorem kb_ld : kitB "list" "dict" = some false := by decide +kernel
theorem kb_lt : kitB "list" "tuple" = some false := by decide +kernel
theorem kb_ll : kitB "list" "list" = some true := by decide +kernel
theorem ok__law_same (T : Txt K mg) (hdict : mg "dict" = none) : ∀ N : Nat, FnOk P w K mg base CX0 (N + 1) T.f__law_same T.fd__law_same ["answer", "due"] (sp_law_same K N)
  | 0 => T.F__law_same.ok sc__law_same (fun vs H Q E h => h.elim) (fun cdv A outer s H vs Q E hr h => h.elim)
  | N + 1 => by
    have ih := ok__law_same T hdict N
    refine T.F__law_same.ok sc__law_same (fun vs H Q E h => ?_) (fun cdv A outer s H vs Q E hr h => ?_)
    · obtain ⟨_, _, _, _, rfl, _⟩ := h
      rfl
    · obtain ⟨v, u, d, n, rfl, hv, hu0, hn, hl, k⟩ := h
      refine ⟨_, (dv__law_same T hdict ih hr).2, ?_⟩
      dsimp only [dv__law_same]
      cases n with
      | zero =>
        rcases hl with ⟨i, rfl⟩ | ⟨z, rfl⟩
        · cases hv; cases hu0
          have ty := TyX.base (TyOf.int (K := K) (H := H) i)
          have hib := kb_ib
          have hii := kb_ii
          walk_at "rd"
          repeat (first | (refine if_rn ?_; walk_at "rd") | (refine if_in ?_; walk_at "rd") | (refine if_sn ?_; walk_at "rd") | (refine isi_by (by assumption) (by assumption) ?_; walk_at "rd") | (refine if_t rfl ?_; walk_at "rd") | (refine if_f rfl ?_; walk_at "rd"))
          rw [show decide (V.int i = V.int i) = true from decide_eq_true rfl]
          exact k H (Same.refl _)
        · cases hv; cases hu0
          have ty := TyX.base (TyOf.str (K := K) (H := H) z)
          have hsb := kb_sb
          have hsi := kb_si
          have hss := kb_ss
          walk_at "rd"
          repeat (first | (refine if_rn ?_; walk_at "rd") | (refine if_in ?_; walk_at "rd") | (refine if_sn ?_; walk_at "rd") | (refine isi_by (by assumption) (by assumption) ?_; walk_at "rd") | (refine if_t rfl ?_; walk_at "rd") | (refine if_f rfl ?_; walk_at "rd"))
          rw [show decide (V.str z = V.str z) = true from decide_eq_true rfl]
          exact k H (Same.refl _)
      | succ n =>
        obtain ⟨ds, hd, hlen, hall⟩ := hl
        obtain ⟨M, rfl⟩ : ∃ M, N = M + 1 := ⟨N - 1, by omega⟩
        rcases hd with rfl | rfl
        · cases hv with
          | tup q1 r1 =>
          cases hu0 with
          | tup q2 r2 =>
          have ty1 := ty_tup q1
          have ty2 := ty_tup q2
          have e1 := DpAll.length r1
          have e2 := DpAll.length r2
          have htb := kb_tb
          have hti := kb_ti
          have hts := kb_ts
          have htd := kb_td
          have htt := kb_tt
          have htl := kb_tl
          walk_at "rd"
          repeat (first | (refine if_rn ?_; walk_at "rd") | (refine if_in ?_; walk_at "rd") | (refine if_sn ?_; walk_at "rd") | (refine isi_by (by assumption) (by assumption) ?_; walk_at "rd") | (refine if_t rfl ?_; walk_at "rd") | (refine if_f rfl ?_; walk_at "rd"))
          rename_i a1 xs1 a2 xs2
          refine if_t (decide_eq_true (by rw [e1, e2])) ?_
          walk_at "rd"
          refine lc_r (lo := 0) (n := xs2.length) (fun D i H' => Same H H' ∧ H' D = some (.lst ((List.replicate i true).map V.bl))) (fun D hD => ⟨Same.upd hD, upd_same⟩) (fun D i H' N hD hi ⟨sD, aD⟩ hN => ?_) fun D H' hD ⟨sD, aD⟩ => ?_
          · refine ⟨rfl, ?_⟩
            dsimp only [tYes, ite_tt]
            have hids : i < ds.length := by omega
            obtain ⟨v1, hv1, dv1⟩ := DpAll.get r1 (List.getElem?_eq_getElem hids)
            obtain ⟨v2, hv2, dv2⟩ := DpAll.get r2 (List.getElem?_eq_getElem hids)
            have at1 : atI xs1 (0 + (i : Int)) = some v1 := by rw [Int.zero_add]; exact atI_nat hv1
            have at2 : atI xs2 (0 + (i : Int)) = some v2 := by rw [Int.zero_add]; exact atI_nat hv2
            walk_at "rd"
            refine rIx_t (SqT.mono sD q1) at1 ?_
            walk_at "rd"
            refine rIx_t (SqT.mono sD q2) at2 ?_
            refine ⟨v1, v2, ds[i], n, rfl, Dp.mono sD dv1, Dp.mono sD dv2, by omega, hall _ (List.getElem_mem hids), fun H2 s2 => ⟨_, s2 _ _ aD, by rw [List.length_map, List.length_replicate, sizeLine_eq]; omega, hN _ ⟨Same.mut (sD.trans s2) hD, ?_⟩⟩⟩
            rw [List.replicate_succ', List.map_append]
            exact upd_same
          · refine ⟨D, List.replicate xs2.length true, rfl, SqL.of aD, ?_⟩
            rw [show (List.replicate xs2.length true).all id = true by simp]
            exact k _ sD
        · cases hv with
          | lst q1 r1 =>
          cases hu0 with
          | lst q2 r2 =>
          have ty1 := ty_lst q1
          have ty2 := ty_lst q2
          have e1 := DpAll.length r1
          have e2 := DpAll.length r2
          have hlb := kb_lb
          have hli := kb_li
          have hls := kb_ls
          have hld := kb_ld
          have hlt := kb_lt
          have hll := kb_ll
          walk_at "rd"
          repeat (first | (refine if_rn ?_; walk_at "rd") | (refine if_in ?_; walk_at "rd") | (refine if_sn ?_; walk_at "rd") | (refine isi_by (by assumption) (by assumption) ?_; walk_at "rd") | (refine if_t rfl ?_; walk_at "rd") | (refine if_f rfl ?_; walk_at "rd"))
          rename_i a1 xs1 a2 xs2
          refine if_t (decide_eq_true (by rw [e1, e2])) ?_
          walk_at "rd"
          refine lc_r (lo := 0) (n := xs2.length) (fun D i H' => Same H H' ∧ H' D = some (.lst ((List.replicate i true).map V.bl))) (fun D hD => ⟨Same.upd hD, upd_same⟩) (fun D i H' N hD hi ⟨sD, aD⟩ hN => ?_) fun D H' hD ⟨sD, aD⟩ => ?_
          · refine ⟨rfl, ?_⟩
            dsimp only [tYes, ite_tt]
            have hids : i < ds.length := by omega
            obtain ⟨v1, hv1, dv1⟩ := DpAll.get r1 (List.getElem?_eq_getElem hids)
            obtain ⟨v2, hv2, dv2⟩ := DpAll.get r2 (List.getElem?_eq_getElem hids)
            have at1 : atI xs1 (0 + (i : Int)) = some v1 := by rw [Int.zero_add]; exact atI_nat hv1
            have at2 : atI xs2 (0 + (i : Int)) = some v2 := by rw [Int.zero_add]; exact atI_nat hv2
            walk_at "rd"
            refine rIx_l (SqL.mono sD q1) at1 ?_
            walk_at "rd"
            refine rIx_l (SqL.mono sD q2) at2 ?_
            refine ⟨v1, v2, ds[i], n, rfl, Dp.mono sD dv1, Dp.mono sD dv2, by omega, hall _ (List.getElem_mem hids), fun H2 s2 => ⟨_, s2 _ _ aD, by rw [List.length_map, List.length_replicate, sizeLine_eq]; omega, hN _ ⟨Same.mut (sD.trans s2) hD, ?_⟩⟩⟩
            rw [List.replicate_succ', List.map_append]
            exact upd_same
          · refine ⟨D, List.replicate xs2.length true, rfl, SqL.of aD, ?_⟩
            rw [show (List.replicate xs2.length true).all id = true by simp]
            exact k _ sD

def tx1 : List Nat := ("hall x 0#?\nA" : Str).cps.toList
def tx2 : List Nat := ("a.b=->0" : Str).cps.toList
theorem m1 : manyOf tx1 = none := by decide +kernel
theorem m2 : manyOf tx2 = none := by decide +kernel
theorem b1 : firstBad tx1 = some (2, 0, ("bad" : Str), ("sign" : Str)) := by decide +kernel
theorem b2 : firstBad tx2 = none := by decide +kernel
theorem a2 : (toksAll tx2).flatten = [(1, 0, ("name" : Str), ("a" : Str)), (1, 1, ("sign" : Str), ("." : Str)), (1, 2, ("name" : Str), ("b" : Str)), (1, 3, ("sign" : Str), ("=" : Str)), (1, 4, ("sign" : Str), ("->" : Str)), (1, 6, ("number" : Str), ("0" : Str))] := by decide +kernel
theorem txs1 : ("hall x 0#?\nA" : Str) = mkS tx1 := by decide +kernel
theorem txs2 : ("a.b=->0" : Str) = mkS tx2 := by decide +kernel
theorem mkS_self (z : Str) : z = mkS z.cps.toList := by cases z; simp [mkS]
def sp_law (K : PySem.W.Frag) : Sp := fun vs H Q _ => ∃ (a : Addr) (ns : List Int), vs = [.ref a] ∧ SqL K H a (ns.map V.int) ∧ ns.length ≤ 63 ∧ ∀ H', Q (.bl true) H'
theorem ix_listK {X : Cx} (h : X.K = K) : IxR X (rIxL K) := h ▸ ix_list
/-- an answer among the first three, kept in the list at D -/
def An (K : PySem.W.Frag) (S H : Hp) (D : Addr) (v : V) (d : PyData) : Prop :=
  (∃ ts q vs, d = .tuple ts ∧ v = .ref q ∧ S q = some (.tup vs) ∧ DpAll K S vs ts) ∨
  (∃ ds p xs, d = .list ds ∧ v = .ref p ∧ p ≠ D ∧ S p = none ∧ H p = some (.lst xs) ∧ DpAll K S xs ds ∧ xs.length ≤ 10000000)
theorem An.dp {S H : Hp} {D : Addr} {v : V} {d : PyData} (h : An K S H D v d) (s : Same S H) : Dp K H v d := by
  rcases h with ⟨ts, q, vs, rfl, rfl, e, dd⟩ | ⟨ds, p, xs, rfl, rfl, _, _, e, dd, _⟩
  · exact .tup (SqT.of (s _ _ e)) (DpAll.mono s dd)
  · exact .lst (SqL.of e) (DpAll.mono s dd)
theorem An.step {S H S' H' : Hp} {D : Addr} {v : V} {d : PyData} (h : An K S H D v d) (X : Ext S H S' H') : An K S' H' D v d := by
  rcases h with ⟨ts, q, vs, rfl, rfl, e, dd⟩ | ⟨ds, p, xs, rfl, rfl, n, sp, e, dd, hl⟩
  · exact .inl ⟨ts, q, vs, rfl, rfl, X.ss _ _ e, DpAll.mono X.ss dd⟩
  · exact .inr ⟨ds, p, xs, rfl, rfl, n, X.none_S sp (by rw [e]; exact fun z => nomatch z), X.hh _ _ e, DpAll.mono X.ss dd, hl⟩
theorem An.mut {S H : Hp} {D : Addr} {o : HO} {v : V} {d : PyData} (h : An K S H D v d) : An K S (upd H D o) D v d := by
  rcases h with h | ⟨ds, p, xs, rfl, rfl, n, sp, e, dd, hl⟩
  · exact .inl h
  · exact .inr ⟨ds, p, xs, rfl, rfl, n, sp, (upd_ne n).trans e, dd, hl⟩
theorem An.same {S H H' : Hp} {D : Addr} {v : V} {d : PyData} (h : An K S H D v d) (s : Same H H') : An K S H' D v d := by
  rcases h with h | ⟨ds, p, xs, rfl, rfl, n, sp, e, dd, hl⟩
  · exact .inl h
  · exact .inr ⟨ds, p, xs, rfl, rfl, n, sp, s _ _ e, dd, hl⟩
structure Fst (K : PySem.W.Frag) (S H : Hp) (D : Addr) (ws : List V) (ds : List PyData) : Prop where
  an : ∀ (j : Nat) (v : V), ws[j]? = some v → ∃ d, ds[j]? = some d ∧ An K S H D v d
  nd : ∀ (j k : Nat) (p : Addr), ws[j]? = some (.ref p) → ws[k]? = some (.ref p) → S p = none → j = k
theorem Ans.dp {H S H' : Hp} {v : V} {d : PyData} (h : Ans K H S H' v d) (s : Same S H') : Dp K H' v d := by
  rcases h with ⟨ts, q, vs, rfl, rfl, e, dd⟩ | ⟨ds, p, xs, rfl, rfl, _, _, e, dd, _⟩
  · exact .tup (SqT.of (s _ _ e)) (DpAll.mono s dd)
  · exact .lst (SqL.of e) (DpAll.mono s dd)
theorem get_snoc {α : Type} {l : List α} {v y : α} {j : Nat} (h : (l ++ [v])[j]? = some y) : l[j]? = some y ∨ (j = l.length ∧ y = v) := by
  by_cases hj : j < l.length
  · left; rwa [List.getElem?_append_left hj] at h
  · rw [List.getElem?_append_right (by omega)] at h
    right
    cases e : j - l.length with
    | zero => rw [e] at h; simp at h; exact ⟨by omega, h.symm⟩
    | succ n => rw [e] at h; simp at h
theorem Fst.snoc {S H S' H' : Hp} {D : Addr} {o : HO} {ws : List V} {ds : List PyData} {v : V} {d : PyData} (F : Fst K S H D ws ds) (X : Ext S H S' H') (hD : H D ≠ none) (h : Ans K H S' H' v d) (hl : ws.length = ds.length) :
    Fst K S' (upd H' D o) D (ws ++ [v]) (ds ++ [d]) := by
  have hA : An K S' (upd H' D o) D v d := by
    refine An.mut ?_
    rcases h with h | ⟨ds, p, xs, rfl, rfl, hp, sp, e, dd, hl⟩
    · exact .inl h
    · exact .inr ⟨ds, p, xs, rfl, rfl, fun z => hD (by rw [← z]; exact hp), sp, e, dd, hl⟩
  have clash : ∀ (j : Nat) (p : Addr), ws[j]? = some (.ref p) → v = .ref p → S' p = none → False := by
    intro j p hj hv hs
    have hp : H p = none := by
      rcases h with ⟨ts, q, vs, _, hq, e, _⟩ | ⟨ds, p', xs, _, hq, hp, _⟩
      · rw [hv] at hq; cases hq; rw [hs] at e; cases e
      · rw [hv] at hq; cases hq; exact hp
    have sp : S p = none := Same.free X.ss hs
    obtain ⟨_, _, hA⟩ := F.an j _ hj
    rcases hA with ⟨ts, q, vs, _, hq, e, _⟩ | ⟨ds, p', xs, _, hq, _, _, e, _⟩
    · cases hq; rw [sp] at e; cases e
    · cases hq; rw [hp] at e; cases e
  refine ⟨fun j y hj => ?_, fun j k p hj hk hs => ?_⟩
  · rcases get_snoc hj with hj | ⟨rfl, rfl⟩
    · obtain ⟨d', h1, h2⟩ := F.an j y hj
      exact ⟨d', by rw [List.getElem?_append_left (List.getElem?_eq_some_iff.mp h1).1]; exact h1, (h2.step X).mut⟩
    · exact ⟨d, by rw [hl]; simp, hA⟩
  · rcases get_snoc hj with hj | ⟨rfl, hj2⟩
    · rcases get_snoc hk with hk | ⟨rfl, hk2⟩
      · exact F.nd j k p hj hk (Same.free X.ss hs)
      · exact (clash j p hj hk2.symm hs).elim
    · rcases get_snoc hk with hk | ⟨rfl, hk2⟩
      · exact (clash k p hk hj2.symm hs).elim
      · rfl
theorem flat_toks_len {text : List Nat} (hl : text.length ≤ 3000) : (toksAll text).flatten.length ≤ 10000000 := by
  have h1 : ∀ l ∈ toksAll text, l.length ≤ text.length := by
    intro l hl2
    unfold toksAll at hl2
    obtain ⟨k, hk, rfl⟩ := List.mem_iff_getElem.mp hl2
    rw [List.getElem_mapIdx, List.length_map]
    exact Nat.le_trans (toks_len _) (linesOf_len (List.getElem_mem _))
  have h2 : (toksAll text).length ≤ text.length + 2 := by unfold toksAll; rw [List.length_mapIdx]; exact linesOf_num
  have h3 := flat_len (toksAll text) h1
  have h5 : (toksAll text).length * text.length ≤ 3002 * 3000 := Nat.mul_le_mul (by omega) (by omega)
  omega
theorem lev_due {text : List Nat} (hl : text.length ≤ 3000) : ∃ n, n ≤ 2 ∧ Lev n (dueOf text) := by
  unfold dueOf
  cases manyOf text with
  | some what =>
    refine ⟨1, by decide, _, .inl rfl, Nat.le_of_ble_eq_true rfl, fun e he => ?_⟩
    rcases List.mem_cons.mp he with rfl | he
    · exact .inr ⟨_, rfl⟩
    · rw [List.mem_singleton.mp he]; exact .inr ⟨_, rfl⟩
  | none =>
    cases firstBad text with
    | some x =>
      refine ⟨1, by decide, _, .inl rfl, Nat.le_of_ble_eq_true rfl, fun e he => ?_⟩
      rcases List.mem_cons.mp he with rfl | he
      · exact .inr ⟨_, rfl⟩
      rcases List.mem_cons.mp he with rfl | he
      · exact .inl ⟨_, rfl⟩
      rcases List.mem_cons.mp he with rfl | he
      · exact .inl ⟨_, rfl⟩
      · rw [List.mem_singleton.mp he]; exact .inr ⟨_, rfl⟩
    | none =>
      refine ⟨2, by decide, _, .inr rfl, by rw [List.length_map]; exact flat_toks_len hl, fun e he => ?_⟩
      obtain ⟨x, _, rfl⟩ := List.mem_map.mp he
      refine ⟨_, .inl rfl, Nat.le_of_ble_eq_true rfl, fun e he => ?_⟩
      rcases List.mem_cons.mp he with rfl | he
      · exact .inl ⟨_, rfl⟩
      rcases List.mem_cons.mp he with rfl | he
      · exact .inl ⟨_, rfl⟩
      rcases List.mem_cons.mp he with rfl | he
      · exact .inr ⟨_, rfl⟩
      · rw [List.mem_singleton.mp he]; exact .inr ⟨_, rfl⟩
noncomputable def dv_law (T : Txt K mg) (T2 : Txt2 K mg T) (hdict : mg "dict" = none) {cdv : Value} {A : Around} {outer : List Env} {s : Shared} {H : Hp} {E : XK} (hr : Room 6 (A.deeper (PyProof.Rows.envOfC "law" (defScope s_law) s.heap.objs.size T.f_law cdv))) :
  { t : TS // PSs (cxOf (CX0) P w K mg base N_law "law" (defScope s_law) T.f_law cdv A outer s H E).nox (defBody s_law) t } := by
  have hu := hu_of hr
  have hu65 := hu65_of hr
  exact ⟨_, (pss_cons (ps_set (i := 1) sc_law.nd rfl (by first | exact Or.inl rfl | exact Or.inr rfl) (pe_call (ok__law_open T) (hr.mono (by decide)) rfl T.m__law_open T.F__law_open.kp T.B__law_open .nil pass0 (pa_cons (pv 0) pa_nil)))
 (pss_cons (ps_set (i := 2) sc_law.nd rfl (by first | exact Or.inl rfl | exact Or.inr rfl) (pe_lst pa_nil))
 (pss_cons (ps_for PassesOwn.never rfl (pi_range1 (by rfl) T.b_range (pa_cons pe_int pa_nil)) (pg_name (i := 3) sc_law.nd rfl (by first | exact Or.inl rfl | exact Or.inr rfl))
 (pss_cons (ps_set (i := 4) sc_law.nd rfl (by first | exact Or.inl rfl | exact Or.inr rfl) (pe_cmpR op_eq (pe_call (ok__law_pick T) (hr.mono (by decide)) rfl T.m__law_pick T.F__law_pick.kp T.B__law_pick .nil pass0 (pa_cons (pv 1) (pa_cons pe_int pa_nil))) pe_int (nomark _)))
 (pss_cons (ps_set (i := 5) sc_law.nd rfl (by first | exact Or.inl rfl | exact Or.inr rfl) (pe_cmpR op_eq (pe_call (ok__law_pick T) (hr.mono (by decide)) rfl T.m__law_pick T.F__law_pick.kp T.B__law_pick .nil pass0 (pa_cons (pv 1) (pa_cons pe_int pa_nil))) pe_int (nomark _)))
 (pss_one (ps_expr (pe_bm PySem.F.plainAttrs_list PySem.F.slot_list_append PySem.F.type_list_append mt_append (pv 2) (pa_cons (pe_join pe_str (pe_lc (own := [("j", 9)]) (by rfl) sc_law.nd (pi_range1 (by rfl) T.b_range (pa_cons (pe_op op_add pe_int (pe_call (ok__law_pick T) (hr.mono (by decide)) rfl T.m__law_pick T.F__law_pick.kp T.B__law_pick .nil pass0 (pa_cons (pv 1) (pa_cons pe_int pa_nil)))) pa_nil)) (blkOk_by (own := [("j", 9)]) (N := N_law) (sc := defScope s_law) (by decide +kernel)) (fun _ _ _ _ _ => (pg_name (i := 9) sc_law.nd rfl (by first | exact Or.inl rfl | exact Or.inr rfl))) (fun _ _ _ _ _ => pts_nil) (fun _ _ _ _ _ => (pe_call (ok__law_piece T) (hr.mono (by decide)) rfl T.m__law_piece T.F__law_piece.kp T.B__law_piece .nil pass0 (pa_cons (pv 1) (pa_cons (pv 4) (pa_cons (pv 5) pa_nil))))))) pa_nil)))))))
 (pss_cons (ps_set (i := 6) sc_law.nd rfl (by first | exact Or.inl rfl | exact Or.inr rfl) (pe_lc (own := [("k", 3)]) (by rfl) sc_law.nd (pi_range1 (by rfl) T.b_range (pa_cons pe_int pa_nil)) (blkOk_by (own := [("k", 3)]) (N := N_law) (sc := defScope s_law) (by decide +kernel)) (fun _ _ _ _ _ => (pg_name (i := 3) sc_law.nd rfl (by first | exact Or.inl rfl | exact Or.inr rfl))) (fun _ _ _ _ _ => pts_nil) (fun _ _ _ _ _ => (pe_call (ok__law_word T) (hr.mono (by decide)) rfl T.m__law_word T.F__law_word.kp T.B__law_word .nil pass0 (pa_cons (pv 1) (pa_cons (pe_lst pa_nil) pa_nil))))))
 (pss_cons (ps_setLc (i := 7) (own := [("text", 10)]) (by rfl) sc_law.nd rfl rfl (sw_true rfl rfl rfl (by decide +kernel)) (pi_list (pv 2)) (blkOk_by (own := [("text", 10)]) (N := N_law) (sc := defScope s_law) (by decide +kernel)) (fun _ _ _ _ _ => (pg_name (i := 10) sc_law.nd rfl (by first | exact Or.inl rfl | exact Or.inr rfl))) (fun _ _ _ _ _ => pts_nil) (fun _ _ _ _ _ => (pe_call (ok__law_walk T) (hr.mono (by decide)) rfl T.m__law_walk T.F__law_walk.kp T.B__law_walk .nil pass0 (pa_cons (pv 10) pa_nil))))
 (pss_cons (ps_setLc (i := 8) (own := [("k", 3)]) (by rfl) sc_law.nd rfl rfl (sw_true rfl rfl rfl (by decide +kernel)) (pi_range1 (by rfl) T.b_range (pa_cons pe_int pa_nil)) (blkOk_by (own := [("k", 3)]) (N := N_law) (sc := defScope s_law) (by decide +kernel)) (fun _ _ _ _ _ => (pg_name (i := 3) sc_law.nd rfl (by first | exact Or.inl rfl | exact Or.inr rfl))) (fun _ _ _ _ _ => pts_nil) (fun _ _ _ _ _ => (pe_call (ok__law_asked T T2) (hr.mono (by decide)) rfl T.m__law_asked T.F__law_asked.kp T.B__law_asked .nil pass0 (pa_cons (pe_ix (ix_listK (K := K) rfl) (pv 6) (pv 3) (fun _ _ => rfl)) (pa_cons (pe_ix (ix_listK (K := K) rfl) (pv 2) (pv 3) (fun _ _ => rfl)) pa_nil)))))
 (pss_cons (ps_for PassesOwn.never rfl (pi_range1 (by rfl) T.b_range (pa_cons pe_int pa_nil)) (pg_name (i := 3) sc_law.nd rfl (by first | exact Or.inl rfl | exact Or.inr rfl))
 (pss_cons (ps_if (pt_not (pt_val (pe_call (ok__law_same T hdict 3) (hr.mono (by decide)) rfl T.m__law_same T.F__law_same.kp T.B__law_same .nil pass0 (pa_cons (pe_ix (ix_listK (K := K) rfl) (pv 8) (pv 3) (fun _ _ => rfl)) (pa_cons (pe_ix (ix_listK (K := K) rfl) (pv 7) (pv 3) (fun _ _ => rfl)) pa_nil)))))
 (pss_one (ps_ret pe_bl))
 pss_nil)
 (pss_one (ps_if (pt_val (pe_callB call_isi (by rfl) T.b_isinstance (by decide +kernel) (pa_cons (pe_ix (ix_listK (K := K) rfl) (pv 8) (pv 3) (fun _ _ => rfl)) (pa_cons (pe_gty (z := "list") rfl T.b_list (by decide +kernel)) pa_nil))))
 (pss_one (ps_expr (pe_bm PySem.F.plainAttrs_list PySem.F.slot_list_append PySem.F.type_list_append mt_append (pe_ix (ix_listK (K := K) rfl) (pv 8) (pv 3) (fun _ _ => rfl)) (pa_cons (pe_tup (pa_cons pe_str pa_nil)) pa_nil))))
 pss_nil))))
 (pss_cons (ps_for PassesOwn.never rfl (pi_range1 (by rfl) T.b_range (pa_cons pe_int pa_nil)) (pg_name (i := 3) sc_law.nd rfl (by first | exact Or.inl rfl | exact Or.inr rfl))
 (pss_one (ps_if (pt_not (pt_val (pe_call (ok__law_same T hdict 3) (hr.mono (by decide)) rfl T.m__law_same T.F__law_same.kp T.B__law_same .nil pass0 (pa_cons (pe_call (ok__law_asked T T2) (hr.mono (by decide)) rfl T.m__law_asked T.F__law_asked.kp T.B__law_asked .nil pass0 (pa_cons (pe_ix (ix_listK (K := K) rfl) (pv 6) (pe_op op_sub pe_int (pv 3)) (fun _ _ => rfl)) (pa_cons (pe_ix (ix_listK (K := K) rfl) (pv 2) (pe_op op_sub pe_int (pv 3)) (fun _ _ => rfl)) pa_nil))) (pa_cons (pe_ix (ix_listK (K := K) rfl) (pv 7) (pe_op op_sub pe_int (pv 3)) (fun _ _ => rfl)) pa_nil)))))
 (pss_one (ps_ret pe_bl))
 pss_nil)))
 (pss_cons (ps_if (pt_not (pt_val (pe_call (ok__law_same T hdict 3) (hr.mono (by decide)) rfl T.m__law_same T.F__law_same.kp T.B__law_same .nil pass0 (pa_cons (pe_call (ok__law_asked T T2) (hr.mono (by decide)) rfl T.m__law_asked T.F__law_asked.kp T.B__law_asked .nil pass0 (pa_cons (pe_ix (ix_listK (K := K) rfl) (pv 6) pe_int (fun _ _ => rfl)) (pa_cons pe_str pa_nil))) (pa_cons (pe_tup (pa_cons pe_str (pa_cons pe_int (pa_cons pe_int (pa_cons pe_str pa_nil))))) pa_nil)))))
 (pss_one (ps_ret pe_bl))
 pss_nil)
 (pss_one (ps_ret (pe_call (ok__law_same T hdict 3) (hr.mono (by decide)) rfl T.m__law_same T.F__law_same.kp T.B__law_same .nil pass0 (pa_cons (pe_call (ok__law_asked T T2) (hr.mono (by decide)) rfl T.m__law_asked T.F__law_asked.kp T.B__law_asked .nil pass0 (pa_cons (pe_ix (ix_listK (K := K) rfl) (pv 6) pe_int (fun _ _ => rfl)) (pa_cons pe_str pa_nil))) (pa_cons (pe_lst (pa_cons (pe_tup (pa_cons pe_int (pa_cons pe_int (pa_cons pe_str (pa_cons pe_str pa_nil))))) (pa_cons (pe_tup (pa_cons pe_int (pa_cons pe_int (pa_cons pe_str (pa_cons pe_str pa_nil))))) (pa_cons (pe_tup (pa_cons pe_int (pa_cons pe_int (pa_cons pe_str (pa_cons pe_str pa_nil))))) (pa_cons (pe_tup (pa_cons pe_int (pa_cons pe_int (pa_cons pe_str (pa_cons pe_str pa_nil))))) (pa_cons (pe_tup (pa_cons pe_int (pa_cons pe_int (pa_cons pe_str (pa_cons pe_str pa_nil))))) (pa_cons (pe_tup (pa_cons pe_int (pa_cons pe_int (pa_cons pe_str (pa_cons pe_str pa_nil))))) pa_nil))))))) pa_nil))))))))))))))⟩

theorem ok_law (T : Txt K mg) (T2 : Txt2 K mg T) (hdict : mg "dict" = none) : FnOk P w K mg base CX0 7 T.f_law T.fd_law ["script"] (sp_law K) := by
  refine T.F_law.ok sc_law (fun vs H Q E h => ?_) (fun cdv A outer s H vs Q E hr h => ?_)
  · obtain ⟨_, _, rfl, _⟩ := h
    rfl
  · obtain ⟨a, ns, rfl, hq, hn, k⟩ := h
    refine ⟨_, (dv_law T T2 hdict hr).2, ?_⟩
    dsimp only [dv_law]
    walk_at "rd"
    refine ⟨a, ns, rfl, hq, hn, fun p q H1 hs1 hk1 hp hq0 => ?_⟩
    walk_at "rd"
    intro t ht
    obtain ⟨ntp, ntq⟩ := hs1.ne ht
    walk_at "rd"
    refine for_r (lo := 0) (n := 3) (fun i σ H2 => ∃ (x3 x4 x5 x6 x7 x8 x9 x10 : Option V) (ts : List Str), σ = [some (.ref a), some (.ref p), some (.ref t), x3, x4, x5, x6, x7, x8, x9, x10] ∧ Src H2 p q ∧ H2 t = some (.lst (ts.map V.str)) ∧ ts.length = i ∧ ∀ z ∈ ts, z.length ≤ 1100)
      ⟨_, _, _, _, _, _, _, _, [], rfl, Src.upd hs1 ntp ntq, upd_same, rfl, fun z h => absurd h List.not_mem_nil⟩ ?_ ?_
    · rintro i σ H2 N hi ⟨x3, x4, x5, x6, x7, x8, x9, x10, ts, rfl, hs2, hat, hl, hz⟩ hN
      walk_at "rd"
      refine pick_of hs2 (by decide) (by decide) fun r1 H3 hr1 d3 => ?_
      walk_at "rd"
      refine pick_of d3.src (by decide) (by decide) fun r2 H4 hr2 d4 => ?_
      have d24 := d3.trans d4
      have hat4 := d24.keep _ _ hat ntp ntq
      walk_at "rd"
      refine pick_of d24.src (by decide) (by decide) fun r3 H5 hr3 d5 => ?_
      have d25 := d24.trans d5
      walk_at "rd"
      refine lc_draw (b := 26) d25.src (by omega) (fun c H6 hs6 N hN hk => ?_) (fun x => rfl) fun D H6 zs hD d6 hat6 hzl hz1 => ?_
      · walk_at "rd"
        exact ⟨p, q, _, _, rfl, hs6, fun z H7 hz7 d7 => hN _ _ hz7 d7⟩
      · have d26 := d25.trans d6
        have hat7 := d26.keep _ _ hat ntp ntq
        have hjl := join_len hz1
        have hss := sum_le hz1
        have e0 : ("" : Str).length = 0 := by decide +kernel
        have hjs : (zs.map (·.length)).sum + zs.length * ("" : Str).length ≤ 16777216 := by rw [e0]; omega
        walk_at "rd"
        refine hN _ _ ⟨_, _, _, _, _, _, _, _, ts ++ [Txt.join (Str.ofString "") zs], rfl, Src.upd d26.src ntp ntq, by rw [List.map_append]; exact upd_same, by simp [hl], fun z hz2 => ?_⟩
        rcases List.mem_append.mp hz2 with h | h
        · exact hz z h
        · rw [List.mem_singleton.mp h]; omega
    · rintro σ H2 ⟨x3, x4, x5, x6, x7, x8, x9, x10, ts, rfl, hs2, hat, hl, hz⟩
      walk_at "rd"
      refine lc_draw (b := 40) (n := 3) hs2 (by omega) (fun c H3 hs3 N hN hk => ?_) (fun x => rfl) fun nm H3 us hnm d3 hnm3 hul huz => ?_
      · walk_at "rd"
        intro u hu1
        obtain ⟨nup, nuq⟩ := hs3.ne hu1
        exact ⟨p, q, u, rfl, Src.upd hs3 nup nuq, upd_same, nup, nuq, fun z H4 hz4 hs4 hk4 => hN _ _ hz4 ⟨hs4, fun b o e n1 n2 => hk4 b o (upd_at e hu1) n1 n2 (ne_of_none e hu1)⟩⟩
      · have ht3 := d3.keep _ _ hat ntp ntq
        walk_at "rd"
        refine lc_l (a := t) (xs := ts.map V.str) (fun D i H' => ∃ (vs : List V) (S' : Hp), Ext H3 H3 S' H' ∧ S' D = none ∧ H' D = some (.lst vs) ∧ DpAll K S' vs ((ts.take i).map fun z => dueOf z.cps.toList)) (fun D hD => ⟨[], H3, (Ext.refl (Same.refl _)).mut hD hD, hD, upd_same, .nil⟩)
          (fun D i H' hi h => by obtain ⟨_, _, X, _⟩ := h; exact SqL.of (X.hh _ _ ht3)) (fun D i x H' N hD hx h hN => ?_) fun du H4 hdu h => ?_
        · obtain ⟨vs, S', X, sD, aD, dD⟩ := h
          refine ⟨rfl, ?_⟩
          dsimp only [tYes, ite_tt]
          rw [List.getElem?_map] at hx
          cases hz0 : ts[i]? with
          | none => rw [hz0] at hx; cases hx
          | some z =>
          rw [hz0] at hx
          cases hx
          have hzm := hz z (List.mem_of_getElem? hz0)
          have hvl := DpAll.length dD
          rw [List.length_map, List.length_take] at hvl
          walk_at "rd"
          refine ⟨z.cps.toList, S', by rw [← mkS_self z]; rfl, Nat.le_trans hzm (by decide), X.sub, fun v S2 H5 X2 dv => ⟨vs, X2.hh _ _ aD, by rw [sizeLine_eq]; omega, hN _ ⟨vs ++ [v], S2, (X.trans X2).mut hD (X2.none_S sD (by rw [aD]; exact fun z => nomatch z)), X2.none_S sD (by rw [aD]; exact fun z => nomatch z), upd_same, ?_⟩⟩⟩
          rw [List.take_add_one, hz0, List.map_append]
          exact DpAll.append (DpAll.mono X2.ss dD) (.cons dv .nil)
        · obtain ⟨dvs, S4, X4, sdu, adu, dD⟩ := h
          rw [List.length_map, List.take_length] at dD
          have X5 := X4.freeze hdu sdu adu
          have dD5 := DpAll.mono (Same.upd (o := HO.lst dvs) sdu) dD
          have adu5 : (upd S4 du (.lst dvs)) du = some (.lst dvs) := upd_same
          generalize (upd S4 du (.lst dvs)) = S5 at *
          have hlt : ts.length = 3 := hl
          walk_at "rd"
          refine lc_r (lo := 0) (n := 3) (fun D i H' => ∃ (ws : List V) (S' : Hp), Ext S5 H4 S' H' ∧ S' D = none ∧ H' D = some (.lst ws) ∧ ws.length = i ∧ Fst K S' H' D ws ((ts.take i).map fun z => dueOf z.cps.toList))
            (fun D hD => ⟨[], S5, (Ext.refl X5.sub).mut hD (Same.free X5.sub hD), Same.free X5.sub hD, upd_same, rfl, ⟨fun j v h => by simp at h, fun j k p h => by simp at h⟩⟩) (fun D i H' N hD hi h hN => ?_) fun f H6 hf h => ?_
          · obtain ⟨ws, S', X, sD, aD, hwl, F⟩ := h
            refine ⟨rfl, ?_⟩
            dsimp only [tYes, ite_tt]
            have hit : i < ts.length := by omega
            have hiu : i < us.length := by omega
            have hlast : ((ts.take i).map fun z => dueOf z.cps.toList).length = i := by rw [List.length_map, List.length_take]; omega
            have at1 : atI (us.map V.str) (0 + (i : Int)) = some (.str us[i]) := by rw [Int.zero_add]; exact atI_map (List.getElem?_eq_getElem hiu)
            have at2 : atI (ts.map V.str) (0 + (i : Int)) = some (.str ts[i]) := by rw [Int.zero_add]; exact atI_map (List.getElem?_eq_getElem hit)
            have hnm' := X.hh _ _ (X4.hh _ _ hnm3)
            have ht' := X.hh _ _ (X4.hh _ _ ht3)
            have nD : H' D ≠ none := by rw [aD]; exact fun z => nomatch z
            walk_at "rd"
            refine ⟨us[i], ts[i].cps.toList, S', by rw [← mkS_self ts[i]]; rfl, Nat.le_trans (huz _ (List.getElem_mem hiu)) (by decide), Nat.le_trans (hz _ (List.getElem_mem hit)) (by decide), X.sub, fun v S2 H7 X2 hA => ⟨ws, X2.hh _ _ aD, by rw [sizeLine_eq]; omega, hN _ ⟨ws ++ [v], S2, (X.trans X2).mut hD (X2.none_S sD nD), X2.none_S sD nD, upd_same, by simp [hwl], ?_⟩⟩⟩
            rw [List.take_add_one, List.getElem?_eq_getElem hit, List.map_append]
            exact F.snoc X2 nD hA (by rw [hwl, hlast])
          · obtain ⟨ws, S6, X6, sf, af, hwl, F⟩ := h
            have hS6 := X6.sub
            have htk : ts.take 3 = ts := by rw [← hlt, List.take_length]
            rw [htk] at F
            have dD6 := DpAll.mono X6.ss dD5
            have adu6 := X6.ss _ _ adu5
            have hnm6 : S6 nm = _ := X6.ss _ _ (X5.ss _ _ hnm3)
            have ht6 : S6 t = _ := X6.ss _ _ (X5.ss _ _ ht3)
            have hdvl := DpAll.length dD6
            rw [List.length_map] at hdvl
            walk_at "rd"
            refine for_r (lo := 0) (n := 3) (fun i σ H' => ∃ (x3 x4 x5 x9 x10 : Option V), σ = [some (.ref a), some (.ref p), some (.ref t), x3, x4, x5, some (.ref nm), some (.ref du), some (.ref f), x9, x10] ∧ Same S6 H' ∧ H' f = some (.lst ws) ∧
              ∀ (j : Nat), i ≤ j → ∀ v, ws[j]? = some v → ∃ d, (ts.map fun z => dueOf z.cps.toList)[j]? = some d ∧ An K S6 H' f v d) ⟨_, _, _, _, _, rfl, hS6, af, fun j _ v hv => F.an j v hv⟩ ?_ ?_
            · rintro i σ H7 N hi ⟨x3, x4, x5, x9, x10, rfl, hS7, hf7, hA7⟩ hN
              have hit : i < ts.length := by omega
              have hiw : i < ws.length := by omega
              have hid : i < dvs.length := by omega
              obtain ⟨d, hd, hA⟩ := hA7 i (Nat.le_refl _) _ (List.getElem?_eq_getElem hiw)
              rw [List.getElem?_map, List.getElem?_eq_getElem hit] at hd
              cases hd
              obtain ⟨u, hu7, hdu7⟩ := DpAll.get dD6 (i := i) (d := dueOf ts[i].cps.toList) (by rw [List.getElem?_map, List.getElem?_eq_getElem hit]; rfl)
              obtain ⟨n, hn2, hlev⟩ := lev_due (text := ts[i].cps.toList) (Nat.le_trans (hz _ (List.getElem_mem hit)) (by decide))
              have at1 : atI ws (0 + (i : Int)) = some ws[i] := by rw [Int.zero_add]; exact atI_nat (List.getElem?_eq_getElem hiw)
              have at2 : atI dvs (0 + (i : Int)) = some u := by rw [Int.zero_add]; exact atI_nat hu7
              have hdu' := hS7 _ _ adu6
              walk_at "rd"
              refine ⟨ws[i], u, _, n, rfl, hA.dp hS7, Dp.mono hS7 hdu7, hn2, hlev, fun H8 s8 => ?_⟩
              have hf8 := s8 _ _ hf7
              have hS8 := hS7.trans s8
              walk_at "rd"
              refine if_f rfl ?_
              walk_at "rd"
              rcases hA with ⟨tt, q9, vs9, hd9, hv9, e9, dd9⟩ | ⟨dl, p9, xs9, hd9, hv9, n9, sp9, e9, dd9, hl9⟩
              · rw [hv9] at at1 ⊢
                refine isi_by (ty_tup (SqT.of (hS8 _ _ e9))) kb_tl ?_
                walk_at "rd"
                refine hN _ _ ⟨_, _, _, _, _, rfl, hS8, hf8, fun j hj v hv => ?_⟩
                obtain ⟨d, h1, h2⟩ := hA7 j (by omega) v hv
                exact ⟨d, h1, h2.same s8⟩
              · rw [hv9] at at1 ⊢
                have e98 := s8 _ _ e9
                refine isi_by (ty_lst (SqL.of e98)) kb_ll ?_
                walk_at "rd"
                intro q1 hq1
                have e99 : upd H8 q1 (.tup [.str "told"]) p9 = _ := upd_at e98 hq1
                walk_at "rd"
                refine hN _ _ ⟨_, _, _, _, _, rfl, Same.mut (hS8.trans (Same.upd hq1)) sp9, (upd_ne (Ne.symm n9)).trans (upd_at hf8 hq1), fun j hj v hv => ?_⟩
                obtain ⟨d, h1, h2⟩ := hA7 j (by omega) v hv
                refine ⟨d, h1, ?_⟩
                rcases h2 with h2 | ⟨dl2, p2, xs2, hd2, hv2, n2, sp2, e2, dd2, hl2⟩
                · exact .inl h2
                · have np : p2 ≠ p9 := fun z => by
                    have := F.nd j i p2 (by rw [hv, hv2]) (by rw [List.getElem?_eq_getElem hiw, hv9, z]) sp2
                    omega
                  exact .inr ⟨dl2, p2, xs2, hd2, hv2, n2, sp2, (upd_ne np).trans (upd_at (s8 _ _ e2) hq1), dd2, hl2⟩
            · rintro σ H7 ⟨x3, x4, x5, x9, x10, rfl, hS7, _, _⟩
              walk_at "rd"
              refine for_r (lo := 0) (n := 3) (fun i σ H' => ∃ (x3 x4 x5 x9 x10 : Option V), σ = [some (.ref a), some (.ref p), some (.ref t), x3, x4, x5, some (.ref nm), some (.ref du), some (.ref f), x9, x10] ∧ Same S6 H') ⟨_, _, _, _, _, rfl, hS7⟩ ?_ ?_
              · rintro i σ H7 N hi ⟨x3, x4, x5, x9, x10, rfl, hS7⟩ hN
                have hit : 2 - i < ts.length := by omega
                have hiu : 2 - i < us.length := by omega
                have hid : 2 - i < dvs.length := by omega
                obtain ⟨u, hu7, hdu7⟩ := DpAll.get dD6 (i := 2 - i) (d := dueOf ts[2 - i].cps.toList) (by rw [List.getElem?_map, List.getElem?_eq_getElem hit]; rfl)
                obtain ⟨n, hn2, hlev⟩ := lev_due (text := ts[2 - i].cps.toList) (Nat.le_trans (hz _ (List.getElem_mem hit)) (by decide))
                have ei : (2 : Int) - (0 + (i : Int)) = ((2 - i : Nat) : Int) := by omega
                have at1 : atI (us.map V.str) (2 - (0 + (i : Int))) = some (.str us[2 - i]) := by rw [ei]; exact atI_map (List.getElem?_eq_getElem hiu)
                have at2 : atI (ts.map V.str) (2 - (0 + (i : Int))) = some (.str ts[2 - i]) := by rw [ei]; exact atI_map (List.getElem?_eq_getElem hit)
                have at3 : atI dvs (2 - (0 + (i : Int))) = some u := by rw [ei]; exact atI_nat hu7
                have hnm7 := hS7 _ _ hnm6
                have ht7 := hS7 _ _ ht6
                have hdu' := hS7 _ _ adu6
                walk_at "rd"
                refine ⟨us[2 - i], ts[2 - i].cps.toList, S6, by rw [← mkS_self ts[2 - i]]; rfl, Nat.le_trans (huz _ (List.getElem_mem hiu)) (by decide), Nat.le_trans (hz _ (List.getElem_mem hit)) (by decide), hS7, fun v S2 H8 X2 hA => ?_⟩
                have hdu8 := X2.hh _ _ hdu'
                walk_at "rd"
                refine ⟨v, u, _, n, rfl, hA.dp X2.sub, Dp.mono (hS7.trans X2.hh) hdu7, hn2, hlev, fun H9 s9 => ?_⟩
                walk_at "rd"
                refine if_f rfl ?_
                walk_at "rd"
                exact hN _ _ ⟨_, _, _, _, _, rfl, (hS7.trans X2.hh).trans s9⟩
              · rintro σ H7 ⟨x3, x4, x5, x9, x10, rfl, hS7⟩
                have hiu0 : 0 < us.length := by omega
                have hiu1 : 1 < us.length := by omega
                have at0 : atI (us.map V.str) 0 = some (.str us[0]) := atI_map (k := 0) (List.getElem?_eq_getElem hiu0)
                have at1 : atI (us.map V.str) 1 = some (.str us[1]) := atI_map (k := 1) (List.getElem?_eq_getElem hiu1)
                have hnm7 := hS7 _ _ hnm6
                walk_at "rd"
                refine ⟨us[0], tx1, S6, congrArg (fun z => [V.str us[0], V.str z]) txs1, Nat.le_trans (huz _ (List.getElem_mem hiu0)) (by decide), by decide +kernel, hS7, fun v S2 H8 X2 hA => ?_⟩
                walk_at "rd"
                intro q1 hq1
                obtain ⟨n, hn2, hlev⟩ := lev_due (text := tx1) (by decide +kernel)
                refine ⟨v, _, _, n, rfl, Dp.mono (Same.upd hq1) (hA.dp X2.sub), ?_, hn2, hlev, fun H9 s9 => ?_⟩
                · unfold dueOf; rw [m1, b1]
                  exact .tup (SqT.of upd_same) (.cons (.str _) (.cons (.int _) (.cons (.int _) (.cons (.str _) .nil))))
                have hnm9 := s9 _ _ (upd_at (X2.hh _ _ hnm7) hq1)
                walk_at "rd"
                refine if_f rfl ?_
                walk_at "rd"
                refine ⟨us[1], tx2, S6, congrArg (fun z => [V.str us[1], V.str z]) txs2, Nat.le_trans (huz _ (List.getElem_mem hiu1)) (by decide), by decide +kernel, ((hS7.trans X2.hh).trans (Same.upd hq1)).trans s9, fun v S2 H8 X2 hA => ?_⟩
                walk_at "rd"
                intro g1 h1
                walk_at "rd"
                intro g2 h2
                walk_at "rd"
                intro g3 h3
                walk_at "rd"
                intro g4 h4
                walk_at "rd"
                intro g5 h5
                walk_at "rd"
                intro g6 h6
                walk_at "rd"
                intro g7 h7
                have D1 : ∀ G, Dp K (upd G g1 (.tup [.int 1, .int 1, .str "name", .str "a"])) (.ref g1) (tokP (1, 0, ("name" : Str), ("a" : Str))) := fun _ => .tup (SqT.of upd_same) (.cons (.int _) (.cons (.int _) (.cons (.str _) (.cons (.str _) .nil))))
                have D2 : ∀ G, Dp K (upd G g2 (.tup [.int 1, .int 2, .str "sign", .str "."])) (.ref g2) (tokP (1, 1, ("sign" : Str), ("." : Str))) := fun _ => .tup (SqT.of upd_same) (.cons (.int _) (.cons (.int _) (.cons (.str _) (.cons (.str _) .nil))))
                have D3 : ∀ G, Dp K (upd G g3 (.tup [.int 1, .int 3, .str "name", .str "b"])) (.ref g3) (tokP (1, 2, ("name" : Str), ("b" : Str))) := fun _ => .tup (SqT.of upd_same) (.cons (.int _) (.cons (.int _) (.cons (.str _) (.cons (.str _) .nil))))
                have D4 : ∀ G, Dp K (upd G g4 (.tup [.int 1, .int 4, .str "sign", .str "="])) (.ref g4) (tokP (1, 3, ("sign" : Str), ("=" : Str))) := fun _ => .tup (SqT.of upd_same) (.cons (.int _) (.cons (.int _) (.cons (.str _) (.cons (.str _) .nil))))
                have D5 : ∀ G, Dp K (upd G g5 (.tup [.int 1, .int 5, .str "sign", .str "->"])) (.ref g5) (tokP (1, 4, ("sign" : Str), ("->" : Str))) := fun _ => .tup (SqT.of upd_same) (.cons (.int _) (.cons (.int _) (.cons (.str _) (.cons (.str _) .nil))))
                have D6 : ∀ G, Dp K (upd G g6 (.tup [.int 1, .int 7, .str "number", .str "0"])) (.ref g6) (tokP (1, 6, ("number" : Str), ("0" : Str))) := fun _ => .tup (SqT.of upd_same) (.cons (.int _) (.cons (.int _) (.cons (.str _) (.cons (.str _) .nil))))
                have s1 := Same.upd (o := HO.tup [.int 1, .int 1, .str "name", .str "a"]) h1
                have s2 := Same.upd (o := HO.tup [.int 1, .int 2, .str "sign", .str "."]) h2
                have s3 := Same.upd (o := HO.tup [.int 1, .int 3, .str "name", .str "b"]) h3
                have s4 := Same.upd (o := HO.tup [.int 1, .int 4, .str "sign", .str "="]) h4
                have s5 := Same.upd (o := HO.tup [.int 1, .int 5, .str "sign", .str "->"]) h5
                have s6 := Same.upd (o := HO.tup [.int 1, .int 7, .str "number", .str "0"]) h6
                have s7 := Same.upd (o := HO.lst [.ref g1, .ref g2, .ref g3, .ref g4, .ref g5, .ref g6]) h7
                obtain ⟨n, hn2, hlev⟩ := lev_due (text := tx2) (by decide +kernel)
                refine ⟨v, _, _, n, rfl, Dp.mono (s1.trans (s2.trans (s3.trans (s4.trans (s5.trans (s6.trans (s7))))))) (hA.dp X2.sub), ?_, hn2, hlev, fun H9 s9 => k _⟩
                unfold dueOf; rw [m2, b2, a2]
                exact .lst (SqL.of upd_same) (.cons (Dp.mono (s2.trans (s3.trans (s4.trans (s5.trans (s6.trans (s7)))))) (D1 _)) (.cons (Dp.mono (s3.trans (s4.trans (s5.trans (s6.trans (s7))))) (D2 _)) (.cons (Dp.mono (s4.trans (s5.trans (s6.trans (s7)))) (D3 _)) (.cons (Dp.mono (s5.trans (s6.trans (s7))) (D4 _)) (.cons (Dp.mono (s6.trans (s7)) (D5 _)) (.cons (Dp.mono s7 (D6 _)) .nil))))))
end NL
namespace NL
open PySem L2


theorem vals_abs : ∀ {us : List Value} {xs : List V}, us.map absV = xs.map some → Vals xs us
  | [], [], _ => .nil
  | [], _ :: _, h => by cases h
  | _ :: _, [], h => by cases h
  | u :: us, x :: xs, h => by
    injection h with h1 h2
    refine .cons ?_ (vals_abs h2)
    cases u <;> simp only [absV] at h1 <;> first | (cases h1; rfl) | (cases h1; exact ⟨_, rfl⟩) | cases h1
theorem kit_cl {K : PySem.W.Frag} {t : Value} {C : Addr} {b : Bool} (h2 : PySem.W.isClsIn K C = true) (h3 : PySem.W.typeIn K (.ref C) = some (.type "type")) (h4 : PySem.W.subIn K t (.ref C) = some b) : PySem.W.kitCls K t (.ref C) = some b := by
  have e : ((PySem.W.clsIn K C).isSome && PySem.W.typeIn K (.ref C) == some (.type "type")) = true := by
    have h2' : (PySem.W.clsIn K C).isSome = true := h2
    rw [h2', h3] <;> rfl
  show (if ((PySem.W.clsIn K C).isSome && PySem.W.typeIn K (.ref C) == some (.type "type")) = true then PySem.W.subIn K t (.ref C) else none) = some b
  rw [if_pos e]; exact h4
theorem exm_of {K : PySem.W.Frag} {S C : Addr} (h1 : PySem.W.subIn K (.ref C) (.type "BaseException") = some true) (h2 : PySem.W.isClsIn K C = true) (h3 : PySem.W.typeIn K (.ref C) = some (.type "type")) (h4 : PySem.W.subIn K (.ref S) (.ref C) = some true) :
    PySem.W.exmOne K (.ref S) (.ref C) = some true := by
  have e1 : (PySem.W.subIn K (.ref C) (.type "BaseException") == some true) = true := by rw [h1] <;> rfl
  unfold PySem.W.exmOne
  rw [if_pos e1]; exact kit_cl h2 h3 h4
theorem kit_self {K : PySem.W.Frag} {t : Value} : PySem.W.kitOne K t t = some true := by
  unfold PySem.W.kitOne; rw [if_pos (beq_self_eq_true _)]
theorem kit_own {K : PySem.W.Frag} {S C : Addr} {b : Bool} (hne : (Value.ref S == Value.ref C) = false) (h2 : PySem.W.isClsIn K C = true) (h3 : PySem.W.typeIn K (.ref C) = some (.type "type")) (h4 : PySem.W.subIn K (.ref S) (.ref C) = some b) : PySem.W.kitOne K (.ref S) (.ref C) = some b := by
  unfold PySem.W.kitOne; rw [if_neg (by rw [hne]; decide)]; exact kit_cl h2 h3 h4
theorem kit_ve {K : PySem.W.Frag} {S : Addr} (h4 : PySem.W.subIn K (.ref S) (.type "ValueError") = some true) : PySem.W.kitOne K (.ref S) (.type "ValueError") = some true := by
  have hne : (Value.ref S == Value.type "ValueError") = false := rfl
  have hm : PySem.W.kitMeta "ValueError" = true := by decide +kernel
  unfold PySem.W.kitOne; rw [if_neg (by rw [hne]; decide)]
  show (if PySem.W.kitMeta "ValueError" = true then PySem.W.subIn K (.ref S) (.type "ValueError") else none) = some true
  rw [if_pos hm]; exact h4
theorem all_mk {l : PySem.W.OpenLaw} {w : World} {K : PySem.W.Frag} {h : Heap} {mg : Str → Option Value} {fa : Addr} (X : K.In h) (G : h.Ns mainGlobals mg) (hfa : mg "law" = some (.ref fa))
    {t_z_SIGNS : Tok} {t_z_NAME : Tok} {t_z_FIGURES : Tok} {t_z_SMALL : Tok} {s_SMALL : Str} {t_z_DIGITS : Tok} {s_DIGITS : Str} {a_KEYS : Addr} {d_KEYS : Option Addr} {i_KEYS : Array Value} {n_KEYS : Nat} {o_KEYS : Array (Option Value)} {a_LeftError : Addr} {a_TooMany : Addr} {a_BadText : Addr} {f_all_in : Addr} {oc_all_in kV_all_in dc_all_in pm_all_in cd_all_in ct_all_in : Value} {od_all_in an_all_in : Option Addr} {sl_all_in : Array (Option Value)} {f_run_sort : Addr} {oc_run_sort kV_run_sort dc_run_sort pm_run_sort cd_run_sort ct_run_sort : Value} {od_run_sort an_run_sort : Option Addr} {sl_run_sort : Array (Option Value)} {f_run_end : Addr} {oc_run_end kV_run_end dc_run_end pm_run_end cd_run_end ct_run_end : Value} {od_run_end an_run_end : Option Addr} {sl_run_end : Array (Option Value)} {f_line_words : Addr} {oc_line_words kV_line_words dc_line_words pm_line_words cd_line_words ct_line_words : Value} {od_line_words an_line_words : Option Addr} {sl_line_words : Array (Option Value)} {f_bare_row : Addr} {oc_bare_row kV_bare_row dc_bare_row pm_bare_row cd_bare_row ct_bare_row : Value} {od_bare_row an_bare_row : Option Addr} {sl_bare_row : Array (Option Value)} {f_long_run : Addr} {oc_long_run kV_long_run dc_long_run pm_long_run cd_long_run ct_long_run : Value} {od_long_run an_long_run : Option Addr} {sl_long_run : Array (Option Value)} {f_check_sizes : Addr} {oc_check_sizes kV_check_sizes dc_check_sizes pm_check_sizes cd_check_sizes ct_check_sizes : Value} {od_check_sizes an_check_sizes : Option Addr} {sl_check_sizes : Array (Option Value)} {f_text_words : Addr} {oc_text_words kV_text_words dc_text_words pm_text_words cd_text_words ct_text_words : Value} {od_text_words an_text_words : Option Addr} {sl_text_words : Array (Option Value)} {f_token_rows : Addr} {oc_token_rows kV_token_rows dc_token_rows pm_token_rows cd_token_rows ct_token_rows : Value} {od_token_rows an_token_rows : Option Addr} {sl_token_rows : Array (Option Value)} {f__law_open : Addr} {oc__law_open kV__law_open dc__law_open pm__law_open cd__law_open ct__law_open : Value} {od__law_open an__law_open : Option Addr} {sl__law_open : Array (Option Value)} {f__law_pick : Addr} {oc__law_pick kV__law_pick dc__law_pick pm__law_pick cd__law_pick ct__law_pick : Value} {od__law_pick an__law_pick : Option Addr} {sl__law_pick : Array (Option Value)} {f__law_same : Addr} {oc__law_same kV__law_same dc__law_same pm__law_same cd__law_same ct__law_same : Value} {od__law_same an__law_same : Option Addr} {sl__law_same : Array (Option Value)} {f__law_keys : Addr} {oc__law_keys kV__law_keys dc__law_keys pm__law_keys cd__law_keys ct__law_keys : Value} {od__law_keys an__law_keys : Option Addr} {sl__law_keys : Array (Option Value)} {f__law_word : Addr} {oc__law_word kV__law_word dc__law_word pm__law_word cd__law_word ct__law_word : Value} {od__law_word an__law_word : Option Addr} {sl__law_word : Array (Option Value)} {f__law_piece : Addr} {oc__law_piece kV__law_piece dc__law_piece pm__law_piece cd__law_piece ct__law_piece : Value} {od__law_piece an__law_piece : Option Addr} {sl__law_piece : Array (Option Value)} {f__law_walk : Addr} {oc__law_walk kV__law_walk dc__law_walk pm__law_walk cd__law_walk ct__law_walk : Value} {od__law_walk an__law_walk : Option Addr} {sl__law_walk : Array (Option Value)} {f__law_asked : Addr} {oc__law_asked kV__law_asked dc__law_asked pm__law_asked cd__law_asked ct__law_asked : Value} {od__law_asked an__law_asked : Option Addr} {sl__law_asked : Array (Option Value)} {f_law : Addr} {oc_law kV_law dc_law pm_law cd_law ct_law : Value} {od_law an_law : Option Addr} {sl_law : Array (Option Value)} {f_TooMany___init__ : Addr} {oc_TooMany___init__ kV_TooMany___init__ dc_TooMany___init__ pm_TooMany___init__ cd_TooMany___init__ ct_TooMany___init__ : Value} {od_TooMany___init__ an_TooMany___init__ : Option Addr} {sl_TooMany___init__ : Array (Option Value)} {nm_TooMany q_TooMany : Str} {N_TooMany : Addr} {bs_TooMany bm_TooMany sub_TooMany : List Value} {sn_TooMany : List Str} {ab_TooMany : Bool} {col_TooMany : Option Bool} {dd_TooMany : Option Addr} {k0_TooMany k1_TooMany k2_TooMany k3_TooMany k5_TooMany : Option Value} {f_BadText___init__ : Addr} {oc_BadText___init__ kV_BadText___init__ dc_BadText___init__ pm_BadText___init__ cd_BadText___init__ ct_BadText___init__ : Value} {od_BadText___init__ an_BadText___init__ : Option Addr} {sl_BadText___init__ : Array (Option Value)} {nm_BadText q_BadText : Str} {N_BadText : Addr} {bs_BadText bm_BadText sub_BadText : List Value} {sn_BadText : List Str} {ab_BadText : Bool} {col_BadText : Option Bool} {dd_BadText : Option Addr} {k0_BadText k1_BadText k2_BadText k3_BadText k5_BadText : Option Value}
    (g_b_ValueError : PySem.W.nsIn K mainGlobals "ValueError" = some none)
    (g_b_abs : PySem.W.nsIn K mainGlobals "abs" = some none)
    (g_b_all : PySem.W.nsIn K mainGlobals "all" = some none)
    (g_b_bool : PySem.W.nsIn K mainGlobals "bool" = some none)
    (g_b_int : PySem.W.nsIn K mainGlobals "int" = some none)
    (g_b_isinstance : PySem.W.nsIn K mainGlobals "isinstance" = some none)
    (g_b_len : PySem.W.nsIn K mainGlobals "len" = some none)
    (g_b_list : PySem.W.nsIn K mainGlobals "list" = some none)
    (g_b_min : PySem.W.nsIn K mainGlobals "min" = some none)
    (g_b_range : PySem.W.nsIn K mainGlobals "range" = some none)
    (g_b_str : PySem.W.nsIn K mainGlobals "str" = some none)
    (g_b_tuple : PySem.W.nsIn K mainGlobals "tuple" = some none)
    (g_c_SIGNS : PySem.W.nsIn K mainGlobals "SIGNS" = some (some (.int 20000 t_z_SIGNS)))
    (g_c_NAME : PySem.W.nsIn K mainGlobals "NAME" = some (some (.int 16 t_z_NAME)))
    (g_c_FIGURES : PySem.W.nsIn K mainGlobals "FIGURES" = some (some (.int 9 t_z_FIGURES)))
    (g_c_SMALL : PySem.W.nsIn K mainGlobals "SMALL" = some (some (.str s_SMALL t_z_SMALL)))
    (g_c_DIGITS : PySem.W.nsIn K mainGlobals "DIGITS" = some (some (.str s_DIGITS t_z_DIGITS)))
    (g_c_KEYS : PySem.W.nsIn K mainGlobals "KEYS" = some (some (.ref a_KEYS)))
    (g_m_LeftError : PySem.W.nsIn K mainGlobals "LeftError" = some (some (.ref a_LeftError)))
    (g_m_TooMany : PySem.W.nsIn K mainGlobals "TooMany" = some (some (.ref a_TooMany)))
    (g_m_BadText : PySem.W.nsIn K mainGlobals "BadText" = some (some (.ref a_BadText)))
    (g_m_all_in : PySem.W.nsIn K mainGlobals "all_in" = some (some (.ref f_all_in)))
    (g_m_run_sort : PySem.W.nsIn K mainGlobals "run_sort" = some (some (.ref f_run_sort)))
    (g_m_run_end : PySem.W.nsIn K mainGlobals "run_end" = some (some (.ref f_run_end)))
    (g_m_line_words : PySem.W.nsIn K mainGlobals "line_words" = some (some (.ref f_line_words)))
    (g_m_bare_row : PySem.W.nsIn K mainGlobals "bare_row" = some (some (.ref f_bare_row)))
    (g_m_long_run : PySem.W.nsIn K mainGlobals "long_run" = some (some (.ref f_long_run)))
    (g_m_check_sizes : PySem.W.nsIn K mainGlobals "check_sizes" = some (some (.ref f_check_sizes)))
    (g_m_text_words : PySem.W.nsIn K mainGlobals "text_words" = some (some (.ref f_text_words)))
    (g_m_token_rows : PySem.W.nsIn K mainGlobals "token_rows" = some (some (.ref f_token_rows)))
    (g_m__law_open : PySem.W.nsIn K mainGlobals "_law_open" = some (some (.ref f__law_open)))
    (g_m__law_pick : PySem.W.nsIn K mainGlobals "_law_pick" = some (some (.ref f__law_pick)))
    (g_m__law_same : PySem.W.nsIn K mainGlobals "_law_same" = some (some (.ref f__law_same)))
    (g_m__law_keys : PySem.W.nsIn K mainGlobals "_law_keys" = some (some (.ref f__law_keys)))
    (g_m__law_word : PySem.W.nsIn K mainGlobals "_law_word" = some (some (.ref f__law_word)))
    (g_m__law_piece : PySem.W.nsIn K mainGlobals "_law_piece" = some (some (.ref f__law_piece)))
    (g_m__law_walk : PySem.W.nsIn K mainGlobals "_law_walk" = some (some (.ref f__law_walk)))
    (g_m__law_asked : PySem.W.nsIn K mainGlobals "_law_asked" = some (some (.ref f__law_asked)))
    (g_m_law : PySem.W.nsIn K mainGlobals "law" = some (some (.ref f_law)))
    (l_c_KEYS : K.lookup a_KEYS = some ⟨.type "tuple", d_KEYS, .seq i_KEYS n_KEYS, o_KEYS⟩)
    (g_ii_TooMany : PySem.W.findIn K (.ref a_TooMany) "__init__" = some (some (.ref f_TooMany___init__)))
    (g_ii_BadText : PySem.W.findIn K (.ref a_BadText) "__init__" = some (some (.ref f_BadText___init__)))
    (hn_ : PySem.W.specialIn K (.builtin "object.__class__") "__get__" = some (some (.builtin "getset_descriptor.__get__")))
    (l_all_in : K.lookup f_all_in = some ⟨oc_all_in, od_all_in, .func (PySem.W.fnOf "all_in" "all_in" (defArgs s_all_in) (defBody s_all_in) (defScope s_all_in) .none kV_all_in dc_all_in pm_all_in an_all_in cd_all_in ct_all_in), sl_all_in⟩)
    (l_run_sort : K.lookup f_run_sort = some ⟨oc_run_sort, od_run_sort, .func (PySem.W.fnOf "run_sort" "run_sort" (defArgs s_run_sort) (defBody s_run_sort) (defScope s_run_sort) .none kV_run_sort dc_run_sort pm_run_sort an_run_sort cd_run_sort ct_run_sort), sl_run_sort⟩)
    (l_run_end : K.lookup f_run_end = some ⟨oc_run_end, od_run_end, .func (PySem.W.fnOf "run_end" "run_end" (defArgs s_run_end) (defBody s_run_end) (defScope s_run_end) .none kV_run_end dc_run_end pm_run_end an_run_end cd_run_end ct_run_end), sl_run_end⟩)
    (l_line_words : K.lookup f_line_words = some ⟨oc_line_words, od_line_words, .func (PySem.W.fnOf "line_words" "line_words" (defArgs s_line_words) (defBody s_line_words) (defScope s_line_words) .none kV_line_words dc_line_words pm_line_words an_line_words cd_line_words ct_line_words), sl_line_words⟩)
    (l_bare_row : K.lookup f_bare_row = some ⟨oc_bare_row, od_bare_row, .func (PySem.W.fnOf "bare_row" "bare_row" (defArgs s_bare_row) (defBody s_bare_row) (defScope s_bare_row) .none kV_bare_row dc_bare_row pm_bare_row an_bare_row cd_bare_row ct_bare_row), sl_bare_row⟩)
    (l_long_run : K.lookup f_long_run = some ⟨oc_long_run, od_long_run, .func (PySem.W.fnOf "long_run" "long_run" (defArgs s_long_run) (defBody s_long_run) (defScope s_long_run) .none kV_long_run dc_long_run pm_long_run an_long_run cd_long_run ct_long_run), sl_long_run⟩)
    (l_check_sizes : K.lookup f_check_sizes = some ⟨oc_check_sizes, od_check_sizes, .func (PySem.W.fnOf "check_sizes" "check_sizes" (defArgs s_check_sizes) (defBody s_check_sizes) (defScope s_check_sizes) .none kV_check_sizes dc_check_sizes pm_check_sizes an_check_sizes cd_check_sizes ct_check_sizes), sl_check_sizes⟩)
    (l_text_words : K.lookup f_text_words = some ⟨oc_text_words, od_text_words, .func (PySem.W.fnOf "text_words" "text_words" (defArgs s_text_words) (defBody s_text_words) (defScope s_text_words) .none kV_text_words dc_text_words pm_text_words an_text_words cd_text_words ct_text_words), sl_text_words⟩)
    (l_token_rows : K.lookup f_token_rows = some ⟨oc_token_rows, od_token_rows, .func (PySem.W.fnOf "token_rows" "token_rows" (defArgs s_token_rows) (defBody s_token_rows) (defScope s_token_rows) .none kV_token_rows dc_token_rows pm_token_rows an_token_rows cd_token_rows ct_token_rows), sl_token_rows⟩)
    (l__law_open : K.lookup f__law_open = some ⟨oc__law_open, od__law_open, .func (PySem.W.fnOf "_law_open" "_law_open" (defArgs s__law_open) (defBody s__law_open) (defScope s__law_open) .none kV__law_open dc__law_open pm__law_open an__law_open cd__law_open ct__law_open), sl__law_open⟩)
    (l__law_pick : K.lookup f__law_pick = some ⟨oc__law_pick, od__law_pick, .func (PySem.W.fnOf "_law_pick" "_law_pick" (defArgs s__law_pick) (defBody s__law_pick) (defScope s__law_pick) .none kV__law_pick dc__law_pick pm__law_pick an__law_pick cd__law_pick ct__law_pick), sl__law_pick⟩)
    (l__law_same : K.lookup f__law_same = some ⟨oc__law_same, od__law_same, .func (PySem.W.fnOf "_law_same" "_law_same" (defArgs s__law_same) (defBody s__law_same) (defScope s__law_same) .none kV__law_same dc__law_same pm__law_same an__law_same cd__law_same ct__law_same), sl__law_same⟩)
    (l__law_keys : K.lookup f__law_keys = some ⟨oc__law_keys, od__law_keys, .func (PySem.W.fnOf "_law_keys" "_law_keys" (defArgs s__law_keys) (defBody s__law_keys) (defScope s__law_keys) .none kV__law_keys dc__law_keys pm__law_keys an__law_keys cd__law_keys ct__law_keys), sl__law_keys⟩)
    (l__law_word : K.lookup f__law_word = some ⟨oc__law_word, od__law_word, .func (PySem.W.fnOf "_law_word" "_law_word" (defArgs s__law_word) (defBody s__law_word) (defScope s__law_word) .none kV__law_word dc__law_word pm__law_word an__law_word cd__law_word ct__law_word), sl__law_word⟩)
    (l__law_piece : K.lookup f__law_piece = some ⟨oc__law_piece, od__law_piece, .func (PySem.W.fnOf "_law_piece" "_law_piece" (defArgs s__law_piece) (defBody s__law_piece) (defScope s__law_piece) .none kV__law_piece dc__law_piece pm__law_piece an__law_piece cd__law_piece ct__law_piece), sl__law_piece⟩)
    (l__law_walk : K.lookup f__law_walk = some ⟨oc__law_walk, od__law_walk, .func (PySem.W.fnOf "_law_walk" "_law_walk" (defArgs s__law_walk) (defBody s__law_walk) (defScope s__law_walk) .none kV__law_walk dc__law_walk pm__law_walk an__law_walk cd__law_walk ct__law_walk), sl__law_walk⟩)
    (l__law_asked : K.lookup f__law_asked = some ⟨oc__law_asked, od__law_asked, .func (PySem.W.fnOf "_law_asked" "_law_asked" (defArgs s__law_asked) (defBody s__law_asked) (defScope s__law_asked) .none kV__law_asked dc__law_asked pm__law_asked an__law_asked cd__law_asked ct__law_asked), sl__law_asked⟩)
    (l_law : K.lookup f_law = some ⟨oc_law, od_law, .func (PySem.W.fnOf "law" "law" (defArgs s_law) (defBody s_law) (defScope s_law) .none kV_law dc_law pm_law an_law cd_law ct_law), sl_law⟩)
    (l_TooMany___init__ : K.lookup f_TooMany___init__ = some ⟨oc_TooMany___init__, od_TooMany___init__, .func (PySem.W.fnOf "__init__" "TooMany.__init__" (defArgs s_TooMany___init__) (defBody s_TooMany___init__) (defScope s_TooMany___init__) .none kV_TooMany___init__ dc_TooMany___init__ pm_TooMany___init__ an_TooMany___init__ cd_TooMany___init__ ct_TooMany___init__), sl_TooMany___init__⟩)
    (xl_TooMany : K.lookup a_TooMany = some (excClassObj nm_TooMany q_TooMany a_TooMany N_TooMany bs_TooMany bm_TooMany true sn_TooMany sub_TooMany ab_TooMany col_TooMany dd_TooMany k0_TooMany k1_TooMany k2_TooMany k3_TooMany k5_TooMany "ValueError.__new__"))
    (l_BadText___init__ : K.lookup f_BadText___init__ = some ⟨oc_BadText___init__, od_BadText___init__, .func (PySem.W.fnOf "__init__" "BadText.__init__" (defArgs s_BadText___init__) (defBody s_BadText___init__) (defScope s_BadText___init__) .none kV_BadText___init__ dc_BadText___init__ pm_BadText___init__ an_BadText___init__ cd_BadText___init__ ct_BadText___init__), sl_BadText___init__⟩)
    (xl_BadText : K.lookup a_BadText = some (excClassObj nm_BadText q_BadText a_BadText N_BadText bs_BadText bm_BadText true sn_BadText sub_BadText ab_BadText col_BadText dd_BadText k0_BadText k1_BadText k2_BadText k3_BadText k5_BadText "ValueError.__new__"))
    (y_c_SMALL : s_SMALL = strSMALL)
    (y_c_DIGITS : s_DIGITS = strDIGITS)
    (v_q_KEYS : i_KEYS.toList.map absV = keysV.map some)
    (w_q_KEYS : i_KEYS.size ≤ 1000)
    (hg_LeftError : PySem.W.findIn K (.ref a_LeftError) "__getattribute__" = some (some (.builtin "BaseException.__getattribute__")))
    (hk_LeftError : PySem.W.findIn K (.ref a_LeftError) "__getattr__" = some none)
    (hs_LeftError : PySem.W.subIn K (.ref a_LeftError) (.type "BaseException") = some true)
    (hd_LeftError : PySem.W.hasDictIn K a_LeftError = true)
    (ha_LeftError : PySem.W.findIn K (.ref a_LeftError) "__class__" = some (some (.builtin "object.__class__")))
    (ht_ : PySem.W.takesIn K (.builtin "object.__class__") = some true)
    (hm_LeftError : PySem.W.mroIn K a_LeftError (.type "object") = some true)
    (ty_LeftError : PySem.W.typeIn K (.ref a_LeftError) = some (.type "type"))
    (ic_LeftError : PySem.W.isClsIn K a_LeftError = true)
    (og_LeftError : PySem.W.specialIn K (.ref a_LeftError) "__getattribute__" = some (some (.builtin "type.__getattribute__")))
    (or_LeftError : PySem.W.readsIn K a_LeftError (.type "type") = true)
    (oe_LeftError : PySem.W.findCls K (.ref a_LeftError) (.type "type") "__init__" = some (.val (.builtin "ValueError.__init__")))
    (hg_TooMany : PySem.W.findIn K (.ref a_TooMany) "__getattribute__" = some (some (.builtin "BaseException.__getattribute__")))
    (hk_TooMany : PySem.W.findIn K (.ref a_TooMany) "__getattr__" = some none)
    (hs_TooMany : PySem.W.subIn K (.ref a_TooMany) (.type "BaseException") = some true)
    (hd_TooMany : PySem.W.hasDictIn K a_TooMany = true)
    (ha_TooMany : PySem.W.findIn K (.ref a_TooMany) "__class__" = some (some (.builtin "object.__class__")))
    (hm_TooMany : PySem.W.mroIn K a_TooMany (.type "object") = some true)
    (ty_TooMany : PySem.W.typeIn K (.ref a_TooMany) = some (.type "type"))
    (ic_TooMany : PySem.W.isClsIn K a_TooMany = true)
    (g_nf_TooMany_what : PySem.W.findIn K (.ref a_TooMany) "what" = some none)
    (hg_BadText : PySem.W.findIn K (.ref a_BadText) "__getattribute__" = some (some (.builtin "BaseException.__getattribute__")))
    (hk_BadText : PySem.W.findIn K (.ref a_BadText) "__getattr__" = some none)
    (hs_BadText : PySem.W.subIn K (.ref a_BadText) (.type "BaseException") = some true)
    (hd_BadText : PySem.W.hasDictIn K a_BadText = true)
    (ha_BadText : PySem.W.findIn K (.ref a_BadText) "__class__" = some (some (.builtin "object.__class__")))
    (hm_BadText : PySem.W.mroIn K a_BadText (.type "object") = some true)
    (ty_BadText : PySem.W.typeIn K (.ref a_BadText) = some (.type "type"))
    (ic_BadText : PySem.W.isClsIn K a_BadText = true)
    (g_nf_BadText_unit : PySem.W.findIn K (.ref a_BadText) "unit" = some none)
    (g_nf_BadText_line : PySem.W.findIn K (.ref a_BadText) "line" = some none)
    (g_nf_BadText_column : PySem.W.findIn K (.ref a_BadText) "column" = some none)
    (g_nf_BadText_what : PySem.W.findIn K (.ref a_BadText) "what" = some none)
    (cc_all_in : PySem.W.codeIn K cd_all_in "all_in" = true)
    (kk_all_in : PySem.W.keepIn K (.ref f_all_in) = true)
    (cc_run_sort : PySem.W.codeIn K cd_run_sort "run_sort" = true)
    (kk_run_sort : PySem.W.keepIn K (.ref f_run_sort) = true)
    (cc_run_end : PySem.W.codeIn K cd_run_end "run_end" = true)
    (kk_run_end : PySem.W.keepIn K (.ref f_run_end) = true)
    (cc_line_words : PySem.W.codeIn K cd_line_words "line_words" = true)
    (kk_line_words : PySem.W.keepIn K (.ref f_line_words) = true)
    (cc_bare_row : PySem.W.codeIn K cd_bare_row "bare_row" = true)
    (kk_bare_row : PySem.W.keepIn K (.ref f_bare_row) = true)
    (cc_long_run : PySem.W.codeIn K cd_long_run "long_run" = true)
    (kk_long_run : PySem.W.keepIn K (.ref f_long_run) = true)
    (cc_check_sizes : PySem.W.codeIn K cd_check_sizes "check_sizes" = true)
    (kk_check_sizes : PySem.W.keepIn K (.ref f_check_sizes) = true)
    (cc_text_words : PySem.W.codeIn K cd_text_words "text_words" = true)
    (kk_text_words : PySem.W.keepIn K (.ref f_text_words) = true)
    (cc_token_rows : PySem.W.codeIn K cd_token_rows "token_rows" = true)
    (kk_token_rows : PySem.W.keepIn K (.ref f_token_rows) = true)
    (cc__law_open : PySem.W.codeIn K cd__law_open "_law_open" = true)
    (kk__law_open : PySem.W.keepIn K (.ref f__law_open) = true)
    (cc__law_pick : PySem.W.codeIn K cd__law_pick "_law_pick" = true)
    (kk__law_pick : PySem.W.keepIn K (.ref f__law_pick) = true)
    (cc__law_same : PySem.W.codeIn K cd__law_same "_law_same" = true)
    (kk__law_same : PySem.W.keepIn K (.ref f__law_same) = true)
    (cc__law_keys : PySem.W.codeIn K cd__law_keys "_law_keys" = true)
    (kk__law_keys : PySem.W.keepIn K (.ref f__law_keys) = true)
    (cc__law_word : PySem.W.codeIn K cd__law_word "_law_word" = true)
    (kk__law_word : PySem.W.keepIn K (.ref f__law_word) = true)
    (cc__law_piece : PySem.W.codeIn K cd__law_piece "_law_piece" = true)
    (kk__law_piece : PySem.W.keepIn K (.ref f__law_piece) = true)
    (cc__law_walk : PySem.W.codeIn K cd__law_walk "_law_walk" = true)
    (kk__law_walk : PySem.W.keepIn K (.ref f__law_walk) = true)
    (cc__law_asked : PySem.W.codeIn K cd__law_asked "_law_asked" = true)
    (kk__law_asked : PySem.W.keepIn K (.ref f__law_asked) = true)
    (cc_law : PySem.W.codeIn K cd_law "law" = true)
    (kk_law : PySem.W.keepIn K (.ref f_law) = true)
    (cc_TooMany___init__ : PySem.W.codeIn K cd_TooMany___init__ "TooMany.__init__" = true)
    (kk_TooMany___init__ : PySem.W.keepIn K (.ref f_TooMany___init__) = true)
    (xb_TooMany : PySem.HandSPX.refsVE bm_TooMany = true)
    (xs_TooMany : PySem.W.findIn K (.ref a_TooMany) "__setattr__" = some (some (.builtin "object.__setattr__")))
    (xk_TooMany : PySem.W.keepIn K (.ref a_TooMany) = true)
    (g_ti_TooMany : PySem.W.typeIn K (.ref f_TooMany___init__) = some (.type "function"))
    (cc_BadText___init__ : PySem.W.codeIn K cd_BadText___init__ "BadText.__init__" = true)
    (kk_BadText___init__ : PySem.W.keepIn K (.ref f_BadText___init__) = true)
    (xb_BadText : PySem.HandSPX.refsVE bm_BadText = true)
    (xs_BadText : PySem.W.findIn K (.ref a_BadText) "__setattr__" = some (some (.builtin "object.__setattr__")))
    (xk_BadText : PySem.W.keepIn K (.ref a_BadText) = true)
    (g_ti_BadText : PySem.W.typeIn K (.ref f_BadText___init__) = some (.type "function"))
    (u_tl : PySem.W.subIn K (.ref a_TooMany) (.ref a_LeftError) = some true)
    (u_bl : PySem.W.subIn K (.ref a_BadText) (.ref a_LeftError) = some true)
    (u_tv : PySem.W.subIn K (.ref a_TooMany) (.type "ValueError") = some true)
    (u_bv : PySem.W.subIn K (.ref a_BadText) (.type "ValueError") = some true)
    (u_tb : PySem.W.subIn K (.ref a_TooMany) (.ref a_BadText) = some false)
    (u_bt : PySem.W.subIn K (.ref a_BadText) (.ref a_TooMany) = some false)
    (ne_tb : (Value.ref a_TooMany == Value.ref a_BadText) = false)
    (ne_bt : (Value.ref a_BadText == Value.ref a_TooMany) = false)
    (g_dict : PySem.W.nsIn K mainGlobals "dict" = some none) :
    ∃ fd : FuncData, (∀ (s : Shared) (v : Value), BindsTo s fd ⟨[v], []⟩ [("script", v)]) ∧ ∀ base : Heap, K.In base → base.Ns mainGlobals mg → FnOk l.prog w K mg base CX0 7 fa fd ["script"] (sp_law K) := by
  have e := hfa.symm.trans (PySem.W.mg_of X G g_m_law)
  obtain rfl : f_law = fa := by cases e; rfl
  exact ⟨_, fun s v => .of_eq rfl, fun base _ _ => ok_law (T := { b_ValueError := PySem.W.mg_none_of X G g_b_ValueError, b_abs := PySem.W.mg_none_of X G g_b_abs, b_all := PySem.W.mg_none_of X G g_b_all, b_bool := PySem.W.mg_none_of X G g_b_bool, b_int := PySem.W.mg_none_of X G g_b_int, b_isinstance := PySem.W.mg_none_of X G g_b_isinstance, b_len := PySem.W.mg_none_of X G g_b_len, b_list := PySem.W.mg_none_of X G g_b_list, b_min := PySem.W.mg_none_of X G g_b_min, b_range := PySem.W.mg_none_of X G g_b_range, b_str := PySem.W.mg_none_of X G g_b_str, b_tuple := PySem.W.mg_none_of X G g_b_tuple, z_SIGNS := t_z_SIGNS, c_SIGNS := PySem.W.mg_of X G g_c_SIGNS, z_NAME := t_z_NAME, c_NAME := PySem.W.mg_of X G g_c_NAME, z_FIGURES := t_z_FIGURES, c_FIGURES := PySem.W.mg_of X G g_c_FIGURES, z_SMALL := t_z_SMALL, c_SMALL := y_c_SMALL ▸ PySem.W.mg_of X G g_c_SMALL, z_DIGITS := t_z_DIGITS, c_DIGITS := y_c_DIGITS ▸ PySem.W.mg_of X G g_c_DIGITS, a_KEYS := a_KEYS, c_KEYS := PySem.W.mg_of X G g_c_KEYS, q_KEYS := fun H => .inr ⟨_, i_KEYS, n_KEYS, l_c_KEYS, rfl, rfl, Nat.le_trans w_q_KEYS (by rw [sizeLine_eq]; decide), vals_abs v_q_KEYS⟩, a_LeftError := a_LeftError, m_LeftError := PySem.W.mg_of X G g_m_LeftError, ec_LeftError := ⟨hg_LeftError, hk_LeftError, hs_LeftError, hd_LeftError, ha_LeftError, hn_, ht_, hm_LeftError⟩, oi_LeftError := ⟨PySem.W.mg_of X G g_m_LeftError, og_LeftError, ty_LeftError, or_LeftError, oe_LeftError⟩, a_TooMany := a_TooMany, m_TooMany := PySem.W.mg_of X G g_m_TooMany, ec_TooMany := ⟨hg_TooMany, hk_TooMany, hs_TooMany, hd_TooMany, ha_TooMany, hn_, ht_, hm_TooMany⟩, nf_TooMany_what := g_nf_TooMany_what, a_BadText := a_BadText, m_BadText := PySem.W.mg_of X G g_m_BadText, ec_BadText := ⟨hg_BadText, hk_BadText, hs_BadText, hd_BadText, ha_BadText, hn_, ht_, hm_BadText⟩, nf_BadText_unit := g_nf_BadText_unit, nf_BadText_line := g_nf_BadText_line, nf_BadText_column := g_nf_BadText_column, nf_BadText_what := g_nf_BadText_what, f_all_in := f_all_in, fd_all_in := PySem.W.fnOf "all_in" "all_in" (defArgs s_all_in) (defBody s_all_in) (defScope s_all_in) .none kV_all_in dc_all_in pm_all_in an_all_in cd_all_in ct_all_in, F_all_in := fun_mk (st := s_all_in) l_all_in cc_all_in kk_all_in, m_all_in := PySem.W.mg_of X G g_m_all_in, f_run_sort := f_run_sort, fd_run_sort := PySem.W.fnOf "run_sort" "run_sort" (defArgs s_run_sort) (defBody s_run_sort) (defScope s_run_sort) .none kV_run_sort dc_run_sort pm_run_sort an_run_sort cd_run_sort ct_run_sort, F_run_sort := fun_mk (st := s_run_sort) l_run_sort cc_run_sort kk_run_sort, m_run_sort := PySem.W.mg_of X G g_m_run_sort, f_run_end := f_run_end, fd_run_end := PySem.W.fnOf "run_end" "run_end" (defArgs s_run_end) (defBody s_run_end) (defScope s_run_end) .none kV_run_end dc_run_end pm_run_end an_run_end cd_run_end ct_run_end, F_run_end := fun_mk (st := s_run_end) l_run_end cc_run_end kk_run_end, m_run_end := PySem.W.mg_of X G g_m_run_end, f_line_words := f_line_words, fd_line_words := PySem.W.fnOf "line_words" "line_words" (defArgs s_line_words) (defBody s_line_words) (defScope s_line_words) .none kV_line_words dc_line_words pm_line_words an_line_words cd_line_words ct_line_words, F_line_words := fun_mk (st := s_line_words) l_line_words cc_line_words kk_line_words, m_line_words := PySem.W.mg_of X G g_m_line_words, f_bare_row := f_bare_row, fd_bare_row := PySem.W.fnOf "bare_row" "bare_row" (defArgs s_bare_row) (defBody s_bare_row) (defScope s_bare_row) .none kV_bare_row dc_bare_row pm_bare_row an_bare_row cd_bare_row ct_bare_row, F_bare_row := fun_mk (st := s_bare_row) l_bare_row cc_bare_row kk_bare_row, m_bare_row := PySem.W.mg_of X G g_m_bare_row, f_long_run := f_long_run, fd_long_run := PySem.W.fnOf "long_run" "long_run" (defArgs s_long_run) (defBody s_long_run) (defScope s_long_run) .none kV_long_run dc_long_run pm_long_run an_long_run cd_long_run ct_long_run, F_long_run := fun_mk (st := s_long_run) l_long_run cc_long_run kk_long_run, m_long_run := PySem.W.mg_of X G g_m_long_run, f_check_sizes := f_check_sizes, fd_check_sizes := PySem.W.fnOf "check_sizes" "check_sizes" (defArgs s_check_sizes) (defBody s_check_sizes) (defScope s_check_sizes) .none kV_check_sizes dc_check_sizes pm_check_sizes an_check_sizes cd_check_sizes ct_check_sizes, F_check_sizes := fun_mk (st := s_check_sizes) l_check_sizes cc_check_sizes kk_check_sizes, m_check_sizes := PySem.W.mg_of X G g_m_check_sizes, f_text_words := f_text_words, fd_text_words := PySem.W.fnOf "text_words" "text_words" (defArgs s_text_words) (defBody s_text_words) (defScope s_text_words) .none kV_text_words dc_text_words pm_text_words an_text_words cd_text_words ct_text_words, F_text_words := fun_mk (st := s_text_words) l_text_words cc_text_words kk_text_words, m_text_words := PySem.W.mg_of X G g_m_text_words, f_token_rows := f_token_rows, fd_token_rows := PySem.W.fnOf "token_rows" "token_rows" (defArgs s_token_rows) (defBody s_token_rows) (defScope s_token_rows) .none kV_token_rows dc_token_rows pm_token_rows an_token_rows cd_token_rows ct_token_rows, F_token_rows := fun_mk (st := s_token_rows) l_token_rows cc_token_rows kk_token_rows, m_token_rows := PySem.W.mg_of X G g_m_token_rows, f__law_open := f__law_open, fd__law_open := PySem.W.fnOf "_law_open" "_law_open" (defArgs s__law_open) (defBody s__law_open) (defScope s__law_open) .none kV__law_open dc__law_open pm__law_open an__law_open cd__law_open ct__law_open, F__law_open := fun_mk (st := s__law_open) l__law_open cc__law_open kk__law_open, m__law_open := PySem.W.mg_of X G g_m__law_open, f__law_pick := f__law_pick, fd__law_pick := PySem.W.fnOf "_law_pick" "_law_pick" (defArgs s__law_pick) (defBody s__law_pick) (defScope s__law_pick) .none kV__law_pick dc__law_pick pm__law_pick an__law_pick cd__law_pick ct__law_pick, F__law_pick := fun_mk (st := s__law_pick) l__law_pick cc__law_pick kk__law_pick, m__law_pick := PySem.W.mg_of X G g_m__law_pick, f__law_same := f__law_same, fd__law_same := PySem.W.fnOf "_law_same" "_law_same" (defArgs s__law_same) (defBody s__law_same) (defScope s__law_same) .none kV__law_same dc__law_same pm__law_same an__law_same cd__law_same ct__law_same, F__law_same := fun_mk (st := s__law_same) l__law_same cc__law_same kk__law_same, m__law_same := PySem.W.mg_of X G g_m__law_same, f__law_keys := f__law_keys, fd__law_keys := PySem.W.fnOf "_law_keys" "_law_keys" (defArgs s__law_keys) (defBody s__law_keys) (defScope s__law_keys) .none kV__law_keys dc__law_keys pm__law_keys an__law_keys cd__law_keys ct__law_keys, F__law_keys := fun_mk (st := s__law_keys) l__law_keys cc__law_keys kk__law_keys, m__law_keys := PySem.W.mg_of X G g_m__law_keys, f__law_word := f__law_word, fd__law_word := PySem.W.fnOf "_law_word" "_law_word" (defArgs s__law_word) (defBody s__law_word) (defScope s__law_word) .none kV__law_word dc__law_word pm__law_word an__law_word cd__law_word ct__law_word, F__law_word := fun_mk (st := s__law_word) l__law_word cc__law_word kk__law_word, m__law_word := PySem.W.mg_of X G g_m__law_word, f__law_piece := f__law_piece, fd__law_piece := PySem.W.fnOf "_law_piece" "_law_piece" (defArgs s__law_piece) (defBody s__law_piece) (defScope s__law_piece) .none kV__law_piece dc__law_piece pm__law_piece an__law_piece cd__law_piece ct__law_piece, F__law_piece := fun_mk (st := s__law_piece) l__law_piece cc__law_piece kk__law_piece, m__law_piece := PySem.W.mg_of X G g_m__law_piece, f__law_walk := f__law_walk, fd__law_walk := PySem.W.fnOf "_law_walk" "_law_walk" (defArgs s__law_walk) (defBody s__law_walk) (defScope s__law_walk) .none kV__law_walk dc__law_walk pm__law_walk an__law_walk cd__law_walk ct__law_walk, F__law_walk := fun_mk (st := s__law_walk) l__law_walk cc__law_walk kk__law_walk, m__law_walk := PySem.W.mg_of X G g_m__law_walk, f__law_asked := f__law_asked, fd__law_asked := PySem.W.fnOf "_law_asked" "_law_asked" (defArgs s__law_asked) (defBody s__law_asked) (defScope s__law_asked) .none kV__law_asked dc__law_asked pm__law_asked an__law_asked cd__law_asked ct__law_asked, F__law_asked := fun_mk (st := s__law_asked) l__law_asked cc__law_asked kk__law_asked, m__law_asked := PySem.W.mg_of X G g_m__law_asked, f_law := f_law, fd_law := PySem.W.fnOf "law" "law" (defArgs s_law) (defBody s_law) (defScope s_law) .none kV_law dc_law pm_law an_law cd_law ct_law, F_law := fun_mk (st := s_law) l_law cc_law kk_law, m_law := PySem.W.mg_of X G g_m_law, f_TooMany___init__ := f_TooMany___init__, fd_TooMany___init__ := PySem.W.fnOf "__init__" "TooMany.__init__" (defArgs s_TooMany___init__) (defBody s_TooMany___init__) (defScope s_TooMany___init__) .none kV_TooMany___init__ dc_TooMany___init__ pm_TooMany___init__ an_TooMany___init__ cd_TooMany___init__ ct_TooMany___init__, F_TooMany___init__ := fun_mk (st := s_TooMany___init__) l_TooMany___init__ cc_TooMany___init__ kk_TooMany___init__, ox_TooMany := ⟨⟨nm_TooMany, q_TooMany, N_TooMany, bs_TooMany, bm_TooMany, sn_TooMany, sub_TooMany, ab_TooMany, col_TooMany, dd_TooMany, k0_TooMany, k1_TooMany, k2_TooMany, k3_TooMany, k5_TooMany, xl_TooMany, xb_TooMany⟩, xs_TooMany, hs_TooMany, ty_TooMany, xk_TooMany⟩, ii_TooMany := g_ii_TooMany, ti_TooMany := g_ti_TooMany, f_BadText___init__ := f_BadText___init__, fd_BadText___init__ := PySem.W.fnOf "__init__" "BadText.__init__" (defArgs s_BadText___init__) (defBody s_BadText___init__) (defScope s_BadText___init__) .none kV_BadText___init__ dc_BadText___init__ pm_BadText___init__ an_BadText___init__ cd_BadText___init__ ct_BadText___init__, F_BadText___init__ := fun_mk (st := s_BadText___init__) l_BadText___init__ cc_BadText___init__ kk_BadText___init__, ox_BadText := ⟨⟨nm_BadText, q_BadText, N_BadText, bs_BadText, bm_BadText, sn_BadText, sub_BadText, ab_BadText, col_BadText, dd_BadText, k0_BadText, k1_BadText, k2_BadText, k3_BadText, k5_BadText, xl_BadText, xb_BadText⟩, xs_BadText, hs_BadText, ty_BadText, xk_BadText⟩, ii_BadText := g_ii_BadText, ti_BadText := g_ti_BadText }) ⟨exm_of hs_LeftError ic_LeftError ty_LeftError u_tl, exm_of hs_LeftError ic_LeftError ty_LeftError u_bl, kit_ve u_tv, kit_self, kit_own ne_tb ic_BadText ty_BadText u_tb, kit_ve u_bv, kit_own ne_bt ic_TooMany ty_TooMany u_bt, kit_self⟩ (PySem.W.mg_none_of X G g_dict)⟩
theorem walk {l : PySem.W.OpenLaw} {q : Program} {loose : List Str} {XP : (Str → Option Value) → Heap → Prop} {YP : World → Heap → Prop} {d : DefRec} {K : Params → PySem.W.Frag} (hn : l.most = some 63) (hdf : d.params.defaults = [])
    (hY : ∀ (w : World) (h : Heap), YP w h → (K w.params).In h)
    (F : ∀ (w : World) (mg : Str → Option Value) (fa : Addr) (h : Heap), (K w.params).In h → h.Ns mainGlobals mg → mg d.name = some (.ref fa) →
      ∃ fd : FuncData, (∀ (s : Shared) (u : Value), BindsTo s fd ⟨[u], []⟩ [("script", u)]) ∧ ∀ base : Heap, (K w.params).In base → base.Ns mainGlobals mg → FnOk l.prog w (K w.params) mg base CX0 7 fa fd ["script"] (sp_law (K w.params))) :
    PySem.W.WalkO q loose XP YP l.row.toRowW d [] (fun f vs => PySem.call f vs) :=
  L2.walk_of (n := 63) (k := 7) (x := "script") (CX := fun _ => CX0) (sp := fun w => sp_law (K w.params)) hn (by decide) hdf ⟨rfl, by decide, by decide⟩ hY F (fun _ _ a ns hl _ hS => ⟨a, ns, rfl, hS, hl, fun _ => rfl⟩) fun _ _ _ _ _ z => z
end NL
open PySem PySem.W PyProof.Rows
set_option maxRecDepth 100000 in
set_option maxHeartbeats 0 in
theorem PySem.Challenge.cw_nowhereleft_k00_words_and_their_places_holds : PySem.Challenge.rw_nowhereleft_k00_words_and_their_places.Holds := by
  w_on; o_law; k_head; (case hw => w_witness2)
  k_fill
  refine NL.walk (l := PySem.Challenge.rw_nowhereleft_k00_words_and_their_places) rfl rfl (fun w h Y => PySem.W.kIn_of Y) ?F
  case F =>
    intro w mg fa h KX G hmg
    refine' NL.all_mk KX G hmg ?g_b_ValueError ?g_b_abs ?g_b_all ?g_b_bool ?g_b_int ?g_b_isinstance ?g_b_len ?g_b_list ?g_b_min ?g_b_range ?g_b_str ?g_b_tuple ?g_c_SIGNS ?g_c_NAME ?g_c_FIGURES ?g_c_SMALL ?g_c_DIGITS ?g_c_KEYS ?g_m_LeftError ?g_m_TooMany ?g_m_BadText ?g_m_all_in ?g_m_run_sort ?g_m_run_end ?g_m_line_words ?g_m_bare_row ?g_m_long_run ?g_m_check_sizes ?g_m_text_words ?g_m_token_rows ?g_m__law_open ?g_m__law_pick ?g_m__law_same ?g_m__law_keys ?g_m__law_word ?g_m__law_piece ?g_m__law_walk ?g_m__law_asked ?g_m_law ?l_c_KEYS ?g_ii_TooMany ?g_ii_BadText ?hn_ ?l_all_in ?l_run_sort ?l_run_end ?l_line_words ?l_bare_row ?l_long_run ?l_check_sizes ?l_text_words ?l_token_rows ?l__law_open ?l__law_pick ?l__law_same ?l__law_keys ?l__law_word ?l__law_piece ?l__law_walk ?l__law_asked ?l_law ?l_TooMany___init__ ?xl_TooMany ?l_BadText___init__ ?xl_BadText ?y_c_SMALL ?y_c_DIGITS ?v_q_KEYS ?w_q_KEYS ?hg_LeftError ?hk_LeftError ?hs_LeftError ?hd_LeftError ?ha_LeftError ?ht_ ?hm_LeftError ?ty_LeftError ?ic_LeftError ?og_LeftError ?or_LeftError ?oe_LeftError ?hg_TooMany ?hk_TooMany ?hs_TooMany ?hd_TooMany ?ha_TooMany ?hm_TooMany ?ty_TooMany ?ic_TooMany ?g_nf_TooMany_what ?hg_BadText ?hk_BadText ?hs_BadText ?hd_BadText ?ha_BadText ?hm_BadText ?ty_BadText ?ic_BadText ?g_nf_BadText_unit ?g_nf_BadText_line ?g_nf_BadText_column ?g_nf_BadText_what ?cc_all_in ?kk_all_in ?cc_run_sort ?kk_run_sort ?cc_run_end ?kk_run_end ?cc_line_words ?kk_line_words ?cc_bare_row ?kk_bare_row ?cc_long_run ?kk_long_run ?cc_check_sizes ?kk_check_sizes ?cc_text_words ?kk_text_words ?cc_token_rows ?kk_token_rows ?cc__law_open ?kk__law_open ?cc__law_pick ?kk__law_pick ?cc__law_same ?kk__law_same ?cc__law_keys ?kk__law_keys ?cc__law_word ?kk__law_word ?cc__law_piece ?kk__law_piece ?cc__law_walk ?kk__law_walk ?cc__law_asked ?kk__law_asked ?cc_law ?kk_law ?cc_TooMany___init__ ?kk_TooMany___init__ ?xb_TooMany ?xs_TooMany ?xk_TooMany ?g_ti_TooMany ?cc_BadText___init__ ?kk_BadText___init__ ?xb_BadText ?xs_BadText ?xk_BadText ?g_ti_BadText ?u_tl ?u_bl ?u_tv ?u_bv ?u_tb ?u_bt ?ne_tb ?ne_bt ?g_dict
    (case g_b_ValueError => k_is)
    (case g_b_abs => k_is)
    (case g_b_all => k_is)
    (case g_b_bool => k_is)
    (case g_b_int => k_is)
    (case g_b_isinstance => k_is)
    (case g_b_len => k_is)
    (case g_b_list => k_is)
    (case g_b_min => k_is)
    (case g_b_range => k_is)
    (case g_b_str => k_is)
    (case g_b_tuple => k_is)
    (case g_c_SIGNS => k_is)
    (case g_c_NAME => k_is)
    (case g_c_FIGURES => k_is)
    (case g_c_SMALL => k_is)
    (case g_c_DIGITS => k_is)
    (case g_c_KEYS => k_is)
    (case g_m_LeftError => k_is)
    (case g_m_TooMany => k_is)
    (case g_m_BadText => k_is)
    (case g_m_all_in => k_is)
    (case g_m_run_sort => k_is)
    (case g_m_run_end => k_is)
    (case g_m_line_words => k_is)
    (case g_m_bare_row => k_is)
    (case g_m_long_run => k_is)
    (case g_m_check_sizes => k_is)
    (case g_m_text_words => k_is)
    (case g_m_token_rows => k_is)
    (case g_m__law_open => k_is)
    (case g_m__law_pick => k_is)
    (case g_m__law_same => k_is)
    (case g_m__law_keys => k_is)
    (case g_m__law_word => k_is)
    (case g_m__law_piece => k_is)
    (case g_m__law_walk => k_is)
    (case g_m__law_asked => k_is)
    (case g_m_law => k_is)
    (case l_c_KEYS => k_is)
    (case g_ii_TooMany => k_is)
    (case g_ii_BadText => k_is)
    (case hn_ => k_is)
    (case l_all_in => k_is)
    (case l_run_sort => k_is)
    (case l_run_end => k_is)
    (case l_line_words => k_is)
    (case l_bare_row => k_is)
    (case l_long_run => k_is)
    (case l_check_sizes => k_is)
    (case l_text_words => k_is)
    (case l_token_rows => k_is)
    (case l__law_open => k_is)
    (case l__law_pick => k_is)
    (case l__law_same => k_is)
    (case l__law_keys => k_is)
    (case l__law_word => k_is)
    (case l__law_piece => k_is)
    (case l__law_walk => k_is)
    (case l__law_asked => k_is)
    (case l_law => k_is)
    (case l_TooMany___init__ => k_is)
    (case xl_TooMany => k_is)
    (case l_BadText___init__ => k_is)
    (case xl_BadText => k_is)
    (case y_c_SMALL => first | rfl | decide +kernel)
    (case y_c_DIGITS => first | rfl | decide +kernel)
    (case v_q_KEYS => first | rfl | decide +kernel)
    (case w_q_KEYS => first | rfl | decide +kernel)
    (case hg_LeftError => k_is)
    (case hk_LeftError => k_is)
    (case hs_LeftError => k_is)
    (case hd_LeftError => k_is)
    (case ha_LeftError => k_is)
    (case ht_ => k_is)
    (case hm_LeftError => k_is)
    (case ty_LeftError => k_is)
    (case ic_LeftError => k_is)
    (case og_LeftError => k_is)
    (case or_LeftError => k_is)
    (case oe_LeftError => k_is)
    (case hg_TooMany => k_is)
    (case hk_TooMany => k_is)
    (case hs_TooMany => k_is)
    (case hd_TooMany => k_is)
    (case ha_TooMany => k_is)
    (case hm_TooMany => k_is)
    (case ty_TooMany => k_is)
    (case ic_TooMany => k_is)
    (case g_nf_TooMany_what => k_is)
    (case hg_BadText => k_is)
    (case hk_BadText => k_is)
    (case hs_BadText => k_is)
    (case hd_BadText => k_is)
    (case ha_BadText => k_is)
    (case hm_BadText => k_is)
    (case ty_BadText => k_is)
    (case ic_BadText => k_is)
    (case g_nf_BadText_unit => k_is)
    (case g_nf_BadText_line => k_is)
    (case g_nf_BadText_column => k_is)
    (case g_nf_BadText_what => k_is)
    (case cc_all_in => k_is)
    (case kk_all_in => k_is)
    (case cc_run_sort => k_is)
    (case kk_run_sort => k_is)
    (case cc_run_end => k_is)
    (case kk_run_end => k_is)
    (case cc_line_words => k_is)
    (case kk_line_words => k_is)
    (case cc_bare_row => k_is)
    (case kk_bare_row => k_is)
    (case cc_long_run => k_is)
    (case kk_long_run => k_is)
    (case cc_check_sizes => k_is)
    (case kk_check_sizes => k_is)
    (case cc_text_words => k_is)
    (case kk_text_words => k_is)
    (case cc_token_rows => k_is)
    (case kk_token_rows => k_is)
    (case cc__law_open => k_is)
    (case kk__law_open => k_is)
    (case cc__law_pick => k_is)
    (case kk__law_pick => k_is)
    (case cc__law_same => k_is)
    (case kk__law_same => k_is)
    (case cc__law_keys => k_is)
    (case kk__law_keys => k_is)
    (case cc__law_word => k_is)
    (case kk__law_word => k_is)
    (case cc__law_piece => k_is)
    (case kk__law_piece => k_is)
    (case cc__law_walk => k_is)
    (case kk__law_walk => k_is)
    (case cc__law_asked => k_is)
    (case kk__law_asked => k_is)
    (case cc_law => k_is)
    (case kk_law => k_is)
    (case cc_TooMany___init__ => k_is)
    (case kk_TooMany___init__ => k_is)
    (case xb_TooMany => first | rfl | decide +kernel)
    (case xs_TooMany => k_is)
    (case xk_TooMany => k_is)
    (case g_ti_TooMany => k_is)
    (case cc_BadText___init__ => k_is)
    (case kk_BadText___init__ => k_is)
    (case xb_BadText => first | rfl | decide +kernel)
    (case xs_BadText => k_is)
    (case xk_BadText => k_is)
    (case g_ti_BadText => k_is)
    (case u_tl => k_is)
    (case u_bl => k_is)
    (case u_tv => k_is)
    (case u_bv => k_is)
    (case u_tb => k_is)
    (case u_bt => k_is)
    (case ne_tb => first | rfl | decide +kernel)
    (case ne_bt => first | rfl | decide +kernel)
    (case g_dict => k_is)
#print axioms PySem.Challenge.cw_nowhereleft_k00_words_and_their_places_holds
